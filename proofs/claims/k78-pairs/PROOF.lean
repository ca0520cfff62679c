import PyProof.Rows.All
import Wide.All
import OpenK.AllK
import Wide.FinOn
import HandS.ForMost
import HandS.Wide
import HandS.WideBits
import HandS.TupAny
import HandS.TupMul
import HandS.Style
import HandS.Deep
import HandS.IsInst
import HandS.Replace
import HandS.Flow
import HandS.Gcd
import HandS.Iter
import HandS.Walk
import PyProof.Draws
import PyProof.EnumMake
import HandS.EndBits
import HandS.ReplaceLit
import KE.SortData
import PyProof.TupleOfSeq
import PyProof.CollectStr
import KE.DataMinMax
import HandS.WordsDict
import HandS.Small
import KE.GoesEnum
import KE.KIndexOf
import HandS.Conv
import KE.GoesEnumKw
import KE.GoesZip
import HandS.More
import HandS.TupSets
import HandS.SetTxt0
import HandS.Strs
import PyProof.StrOps2
import PyProof.SliceStr2
import KE.KIndexWalk
import HandS.DictComp
import PySem.Challenge.RW_bellring_k78_whole_unlike_pairs
set_option Elab.async false
set_option linter.all false
set_option maxRecDepth 100000
set_option maxHeartbeats 2000000
/-! BD: plain data over the hand layer. -/
namespace BD
open PySem PySem.Spec PyProof.Rows L2

/-- plain data; xt: a tuple with no dict of its own, ks: a tuple that may be a key -/
inductive D where
  | non | bl (b : Bool) | int (i : Int) | str (x : Str)
  | lst (xs : List D) | tup (xs : List D)
  | xt (xs : List D) | ks (xs : List D)
  | dk (kvs : List (Key × D)) | dt (kvs : List (List Key × D))
  | scr (ns : List Int)

def TupAt (kt : Bool) (K : PySem.W.Frag) (H : Hp) (a : Addr) (vs : List V) : Prop := H a = some (.tup vs) ∨ (kt = true ∧ SqT K H a vs)

section
variable (kt : Bool) (K : PySem.W.Frag) (H : Hp)
mutual
/-- the value v stands for the data d, in H -/
inductive Rp : V → D → Prop
  | non : Rp .non .non
  | bl (b : Bool) : Rp (.bl b) (.bl b)
  | int (i : Int) : Rp (.int i) (.int i)
  | str (x : Str) : Rp (.str x) (.str x)
  | lst {a : Addr} {vs : List V} {ds : List D} : H a = some (.lst vs) → RpL vs ds → Rp (.ref a) (.lst ds)
  | tup {a : Addr} {vs : List V} {ds : List D} : TupAt kt K H a vs → RpL vs ds → Rp (.ref a) (.tup ds)
  | xt {a : Addr} {vs : List V} {ds : List D} {o : Obj} : H a = some (.frz o (.tup vs)) → o.dict = none → RpL vs ds → Rp (.ref a) (.xt ds)
  | ks {a : Addr} {vs : List V} {ds : List D} : H a = some (.tup vs) → RpL vs ds → Rp (.ref a) (.ks ds)
  | dk {a : Addr} {kvs : List (Key × V)} {kds : List (Key × D)} : Rd H a (.dK kvs) → RpK kvs kds → Rp (.ref a) (.dk kds)
  | dt {a : Addr} {kvs : List (List Key × V)} {kds : List (List Key × D)} : Rd H a (.dT kvs) → RpT kvs kds → Rp (.ref a) (.dt kds)
  | scr {a : Addr} {ns : List Int} : SqL K H a (ns.map V.int) → Rp (.ref a) (.scr ns)
inductive RpL : List V → List D → Prop
  | nil : RpL [] []
  | cons {v : V} {vs : List V} {d : D} {ds : List D} : Rp v d → RpL vs ds → RpL (v :: vs) (d :: ds)
inductive RpK : List (Key × V) → List (Key × D) → Prop
  | nil : RpK [] []
  | cons {k : Key} {v : V} {vs : List (Key × V)} {d : D} {ds : List (Key × D)} : Rp v d → RpK vs ds → RpK ((k, v) :: vs) ((k, d) :: ds)
inductive RpT : List (List Key × V) → List (List Key × D) → Prop
  | nil : RpT [] []
  | cons {k : List Key} {v : V} {vs : List (List Key × V)} {d : D} {ds : List (List Key × D)} : Rp v d → RpT vs ds → RpT ((k, v) :: vs) ((k, d) :: ds)
end
end

/-- what Rp asks of a heap stays -/
structure Le (K : PySem.W.Frag) (H H' : Hp) : Prop where
  lst : ∀ a vs, H a = some (.lst vs) → H' a = some (.lst vs)
  tup : ∀ a vs, H a = some (.tup vs) → H' a = some (.tup vs)
  sqt : ∀ a vs, SqT K H a vs → SqT K H' a vs
  sql : ∀ a vs, SqL K H a vs → SqL K H' a vs
  dk : ∀ a vs, Rd H a (.dK vs) → Rd H' a (.dK vs)
  dt : ∀ a vs, Rd H a (.dT vs) → Rd H' a (.dT vs)
  fz : ∀ a o vs, H a = some (.frz o (.tup vs)) → H' a = some (.frz o (.tup vs))
section
variable {kt : Bool} {K : PySem.W.Frag} {H H' : Hp}
mutual
theorem Rp.mono (e : Le K H H') : ∀ {v : V} {d : D}, Rp kt K H v d → Rp kt K H' v d
  | _, _, .non => .non
  | _, _, .bl b => .bl b
  | _, _, .int i => .int i
  | _, _, .str x => .str x
  | _, _, .lst h r => .lst (e.lst _ _ h) (RpL.mono e r)
  | _, _, .tup h r => .tup (h.elim (fun z => .inl (e.tup _ _ z)) fun z => .inr ⟨z.1, e.sqt _ _ z.2⟩) (RpL.mono e r)
  | _, _, .xt h d r => .xt (e.fz _ _ _ h) d (RpL.mono e r)
  | _, _, .ks h r => .ks (e.tup _ _ h) (RpL.mono e r)
  | _, _, .dk h r => .dk (e.dk _ _ h) (RpK.mono e r)
  | _, _, .dt h r => .dt (e.dt _ _ h) (RpT.mono e r)
  | _, _, .scr h => .scr (e.sql _ _ h)
theorem RpL.mono (e : Le K H H') : ∀ {vs : List V} {ds : List D}, RpL kt K H vs ds → RpL kt K H' vs ds
  | _, _, .nil => .nil
  | _, _, .cons r t => .cons (Rp.mono e r) (RpL.mono e t)
theorem RpK.mono (e : Le K H H') : ∀ {vs : List (Key × V)} {ds : List (Key × D)}, RpK kt K H vs ds → RpK kt K H' vs ds
  | _, _, .nil => .nil
  | _, _, .cons r t => .cons (Rp.mono e r) (RpK.mono e t)
theorem RpT.mono (e : Le K H H') : ∀ {vs : List (List Key × V)} {ds : List (List Key × D)}, RpT kt K H vs ds → RpT kt K H' vs ds
  | _, _, .nil => .nil
  | _, _, .cons r t => .cons (Rp.mono e r) (RpT.mono e t)
end
theorem Le.refl : Le K H H := ⟨fun _ _ h => h, fun _ _ h => h, fun _ _ h => h, fun _ _ h => h, fun _ _ h => h, fun _ _ h => h, fun _ _ _ h => h⟩
theorem Le.trans {H2 : Hp} (a : Le K H H') (b : Le K H' H2) : Le K H H2 :=
  ⟨fun x v h => b.lst x v (a.lst x v h), fun x v h => b.tup x v (a.tup x v h), fun x v h => b.sqt x v (a.sqt x v h), fun x v h => b.sql x v (a.sql x v h), fun x v h => b.dk x v (a.dk x v h), fun x v h => b.dt x v (a.dt x v h), fun x o v h => b.fz x o v (a.fz x o v h)⟩
theorem same_rd {a : Addr} {u : HO} (e : Same H H') (h : Rd H a u) : Rd H' a u := h.elim (fun z => .inl (e _ _ z)) fun ⟨o, z⟩ => .inr ⟨o, e _ _ z⟩
theorem le_of (e : Same H H') : Le K H H' :=
  ⟨fun _ _ h => e _ _ h, fun _ _ h => e _ _ h, fun _ _ h => h.elim (fun z => .inl (same_rd e z)) .inr, fun _ _ h => h.elim (fun z => .inl (same_rd e z)) .inr, fun _ _ h => same_rd e h, fun _ _ h => same_rd e h, fun _ _ _ h => e _ _ h⟩
theorem RpL.length : ∀ {vs : List V} {ds : List D}, RpL kt K H vs ds → vs.length = ds.length
  | _, _, .nil => rfl
  | _, _, .cons _ t => congrArg (· + 1) (RpL.length t)
end
end BD
set_option Elab.async false
set_option linter.all false
set_option maxRecDepth 100000
set_option maxHeartbeats 2000000
/-! BD: cells, states, steps. -/
namespace BD
open PySem PySem.Spec PyProof.Rows L2

/-- what a slot holds: nothing; data that stays; a container that is only read here; a container of our own; one lent by the caller -/
inductive Cell where
  | un | val (d : D) | ro (d : D) | own (d : D) | bor (d : D)
/-- what an expression gives: data that stays, a new container, the container of a slot -/
inductive R where
  | val (d : D) | fr (d : D) | cell (i : Nat)

def nth : List Cell → Nat → Cell
  | [], _ => .un
  | c :: _, 0 => c
  | _ :: r, n + 1 => nth r n
def put : List Cell → Nat → Cell → List Cell
  | [], _, _ => []
  | _ :: r, 0, c => c :: r
  | x :: r, n + 1, c => x :: put r n c
theorem put_len : ∀ (E : List Cell) (i : Nat) (c : Cell), (put E i c).length = E.length
  | [], _, _ => rfl
  | _ :: _, 0, _ => rfl
  | _ :: r, n + 1, c => congrArg (· + 1) (put_len r n c)
theorem nth_put_self : ∀ {E : List Cell} {i : Nat} {c : Cell}, i < E.length → nth (put E i c) i = c
  | [], i, _, h => absurd h (Nat.not_lt_zero i)
  | _ :: _, 0, _, _ => rfl
  | _ :: r, n + 1, c, h => nth_put_self (E := r) (Nat.lt_of_succ_lt_succ h)
theorem nth_put_ne : ∀ {E : List Cell} {i j : Nat} {c : Cell}, j ≠ i → nth (put E i c) j = nth E j
  | [], _, _, _, _ => rfl
  | _ :: _, 0, 0, _, h => absurd rfl h
  | _ :: _, 0, _ + 1, _, _ => rfl
  | _ :: _, _ + 1, 0, _, _ => rfl
  | _ :: r, n + 1, m + 1, c, h => nth_put_ne (E := r) fun e => h (congrArg (· + 1) e)
theorem nth_out : ∀ {E : List Cell} {i : Nat}, E.length ≤ i → nth E i = .un
  | [], _, _ => rfl
  | _ :: _, 0, h => absurd h (Nat.not_succ_le_zero _)
  | _ :: r, n + 1, h => nth_out (E := r) (Nat.le_of_succ_le_succ h)
theorem nth_in {E : List Cell} {i : Nat} (h : nth E i ≠ .un) : i < E.length := Nat.lt_of_not_le fun q => h (nth_out q)
theorem nth_put {E : List Cell} {i j : Nat} {c : Cell} (h : nth E i ≠ .un) : nth (put E i c) j = if j = i then c else nth E j := by
  by_cases e : j = i
  · rw [if_pos e, e]; exact nth_put_self (nth_in h)
  · rw [if_neg e]; exact nth_put_ne e

section
variable (kt : Bool) (K : PySem.W.Frag)
/-- the object o holds d, its items in S -/
def Own (S : Hp) (o : HO) : D → Prop
  | .lst ds => ∃ vs, o = .lst vs ∧ RpL kt K S vs ds
  | .dk ds => ∃ vs, o = .dK vs ∧ RpK kt K S vs ds
  | .dt ds => ∃ vs, o = .dT vs ∧ RpT kt K S vs ds
  | _ => False
/-- o stands at p, or a dict o that a walk has locked -/
def RdD (H : Hp) (p : Addr) (o : HO) : Prop := H p = some o ∨ ((∃ w, H p = some (.frz w o)) ∧ ∀ xs, o ≠ .lst xs ∧ o ≠ .tup xs)
/-- v may be read as d -/
def Vw (S H : Hp) (v : V) (d : D) : Prop := Rp kt K S v d ∨ ∃ p o, v = .ref p ∧ RdD H p o ∧ Own kt K S o d
/-- a is the address of a container of ours -/
def ownA (σ : L2.St) (E : List Cell) (a : Addr) : Prop := ∃ i d, (nth E i = .own d ∨ nth E i = .bor d) ∧ σ[i]? = some (some (.ref a))

/-- a container that is not ours and stays, or data -/
def RoV (S H : Hp) (A : Addr → Prop) (v : V) (d : D) : Prop := Rp kt K S v d ∨ ∃ p o, v = .ref p ∧ RdD H p o ∧ Own kt K S o d ∧ ¬ A p
structure SI (S H : Hp) (σ : L2.St) (E : List Cell) : Prop where
  ex : Same S H
  len : σ.length = E.length
  val : ∀ i d, nth E i = .val d → ∃ v, σ[i]? = some (some v) ∧ Rp kt K S v d
  ro : ∀ i d, nth E i = .ro d → ∃ v, σ[i]? = some (some v) ∧ RoV kt K S H (ownA σ E) v d
  own : ∀ i d, (nth E i = .own d ∨ nth E i = .bor d) → ∃ p o, σ[i]? = some (some (.ref p)) ∧ S p = none ∧ H p = some o ∧ Own kt K S o d
  dis : ∀ i j d e p, (nth E i = .own d ∨ nth E i = .bor d) → (nth E j = .own e ∨ nth E j = .bor e) → σ[i]? = some (some (.ref p)) → σ[j]? = some (some (.ref p)) → i = j
end
structure Fr (S H : Hp) (A : Addr → Prop) (S' H' : Hp) (A' : Addr → Prop) : Prop where
  ex : Same S S'
  keep : ∀ a o, H a = some o → ¬ A a → H' a = some o
  free : ∀ a, H a ≠ none → S a = none → ¬ A a → S' a = none
  own : ∀ a, A' a → A a ∨ H a = none
  alive : ∀ a, H a ≠ none → H' a ≠ none
theorem Fr.refl {S H : Hp} {A : Addr → Prop} : Fr S H A S H A := ⟨fun _ _ h => h, fun _ _ h _ => h, fun _ _ h _ => h, fun _ h => .inl h, fun _ h => h⟩
theorem Fr.trans {S H S1 H1 S2 H2 : Hp} {A A1 A2 : Addr → Prop} (a : Fr S H A S1 H1 A1) (b : Fr S1 H1 A1 S2 H2 A2) : Fr S H A S2 H2 A2 where
  ex := a.ex.trans b.ex
  keep := fun x o h n => b.keep x o (a.keep x o h n) fun z => (a.own x z).elim n fun q => by rw [q] at h; cases h
  free := fun x h s n => b.free x (a.alive x h) (a.free x h s n) fun z => (a.own x z).elim n h
  own := fun x z => (b.own x z).elim (a.own x) fun q => .inr (by
    cases e : H x with
    | none => rfl
    | some o => exact absurd q (a.alive x (by rw [e]; exact fun z => nomatch z)))
  alive := fun x h => b.alive x (a.alive x h)
theorem Fr.back {S H S1 H1 : Hp} {A A1 : Addr → Prop} (a : Fr S H A S1 H1 A1) {p : Addr} (h : H1 p = none) : H p = none := by
  cases e : H p with
  | none => rfl
  | some o => exact absurd h (a.alive p (by rw [e]; exact fun z => nomatch z))
def CellStep : Cell → Cell → Prop
  | .un, c => c = .un
  | .val d, c => c = .val d
  | .ro d, c => c = .ro d
  | .own _, c => (∃ d, c = .own d) ∨ ∃ d, c = .val d
  | .bor _, c => ∃ d, c = .bor d
theorem CellStep.refl : ∀ c, CellStep c c
  | .un => rfl
  | .val _ => rfl
  | .ro _ => rfl
  | .own d => .inl ⟨d, rfl⟩
  | .bor d => ⟨d, rfl⟩
theorem CellStep.trans : ∀ {a b c : Cell}, CellStep a b → CellStep b c → CellStep a c
  | .un, b, c, h, g => by cases (show b = .un from h); exact g
  | .val d, b, c, h, g => by cases (show b = .val d from h); exact g
  | .ro d, b, c, h, g => by cases (show b = .ro d from h); exact g
  | .own _, b, c, h, g => by
    rcases (show (∃ d, b = .own d) ∨ ∃ d, b = .val d from h) with ⟨d, rfl⟩ | ⟨d, rfl⟩
    · exact g
    · exact .inr ⟨d, g⟩
  | .bor _, b, c, h, g => by
    obtain ⟨d, rfl⟩ := (show ∃ d, b = .bor d from h)
    exact g
theorem CellStep.un_iff {a b : Cell} (h : CellStep a b) : a ≠ .un → b ≠ .un := fun ha hb => by
  subst hb
  cases a with
  | un => exact ha rfl
  | val d => exact nomatch (show Cell.un = .val d from h)
  | ro d => exact nomatch (show Cell.un = .ro d from h)
  | own d => rcases (show (∃ d, Cell.un = .own d) ∨ ∃ d, Cell.un = .val d from h) with ⟨d, e⟩ | ⟨d, e⟩ <;> cases e
  | bor d => obtain ⟨d, e⟩ := (show ∃ d, Cell.un = .bor d from h); cases e
theorem CellStep.own_of {a b : Cell} (h : CellStep a b) {d : D} (e : b = .own d ∨ b = .bor d) : ∃ d', a = .own d' ∨ a = .bor d' := by
  cases a with
  | un => cases (show b = .un from h); rcases e with e | e <;> cases e
  | val x => cases (show b = .val x from h); rcases e with e | e <;> cases e
  | ro x => cases (show b = .ro x from h); rcases e with e | e <;> cases e
  | own x => exact ⟨x, .inl rfl⟩
  | bor x => exact ⟨x, .inr rfl⟩

section
variable (kt : Bool) (K : PySem.W.Frag)
/-- an expression's step: the slots' values stay -/
structure Ev (S H : Hp) (σ : L2.St) (E : List Cell) (S' H' : Hp) (E' : List Cell) : Prop where
  si : SI kt K S' H' σ E'
  fr : Fr S H (ownA σ E) S' H' (ownA σ E')
  cells : ∀ i, CellStep (nth E i) (nth E' i)
def RepR (S H : Hp) (σ : L2.St) (E : List Cell) (v : V) : R → Prop
  | .val d => Rp kt K S v d
  | .fr d => ∃ p o, v = .ref p ∧ S p = none ∧ ¬ ownA σ E p ∧ H p = some o ∧ Own kt K S o d
  | .cell i => σ[i]? = some (some v) ∧ nth E i ≠ .un
end
/-- a new container is newer than H -/
def New (H : Hp) (v : V) : R → Prop
  | .fr _ => ∀ p, v = .ref p → H p = none
  | _ => True
def vw (E : List Cell) (r : R) (k : D → Prop) : Prop := match r with
  | .val d => k d
  | .fr d => k d
  | .cell i => match nth E i with
    | .un => False
    | .val d => k d
    | .ro d => k d
    | .own d => k d
    | .bor d => k d
def frz (E : List Cell) (r : R) (k : D → List Cell → Prop) : Prop := match r with
  | .val d => k d E
  | .fr d => k d E
  | .cell i => match nth E i with
    | .val d => k d E
    | .own d => k d (put E i (.val d))
    | _ => False

section
variable {kt : Bool} {K : PySem.W.Frag} {S H S' H' S1 H1 S2 H2 : Hp} {σ : L2.St} {E E' E1 E2 : List Cell} {v : V} {r : R}
theorem Own.mono {o : HO} {d : D} (e : Le K S S') (h : Own kt K S o d) : Own kt K S' o d := by
  cases d with
  | lst ds => obtain ⟨vs, h1, h2⟩ := (show ∃ vs, o = .lst vs ∧ RpL kt K S vs ds from h); exact ⟨vs, h1, h2.mono e⟩
  | dk ds => obtain ⟨vs, h1, h2⟩ := (show ∃ vs, o = .dK vs ∧ RpK kt K S vs ds from h); exact ⟨vs, h1, h2.mono e⟩
  | dt ds => obtain ⟨vs, h1, h2⟩ := (show ∃ vs, o = .dT vs ∧ RpT kt K S vs ds from h); exact ⟨vs, h1, h2.mono e⟩
  | _ => exact (show False from h).elim
theorem Own.rp {o : HO} {d : D} {p : Addr} (h : Own kt K S o d) (hp : S p = some o) : Rp kt K S (.ref p) d := by
  cases d with
  | lst ds => obtain ⟨vs, rfl, h2⟩ := (show ∃ vs, o = .lst vs ∧ RpL kt K S vs ds from h); exact .lst hp h2
  | dk ds => obtain ⟨vs, rfl, h2⟩ := (show ∃ vs, o = .dK vs ∧ RpK kt K S vs ds from h); exact .dk (.inl hp) h2
  | dt ds => obtain ⟨vs, rfl, h2⟩ := (show ∃ vs, o = .dT vs ∧ RpT kt K S vs ds from h); exact .dt (.inl hp) h2
  | _ => exact (show False from h).elim
theorem RoV.vw {A : Addr → Prop} {d : D} (h : RoV kt K S H A v d) : Vw kt K S H v d := h.elim .inl fun ⟨p, o, h1, h2, h3, _⟩ => .inr ⟨p, o, h1, h2, h3⟩
theorem RoV.mono {A A' : Addr → Prop} {d : D} (e : Le K S S') (eh : ∀ p o, RdD H p o → ¬ A p → RdD H' p o) (ea : ∀ p o, RdD H p o → A' p → A p) (h : RoV kt K S H A v d) : RoV kt K S' H' A' v d :=
  h.elim (fun z => .inl (z.mono e)) fun ⟨p, o, h1, h2, h3, h4⟩ => .inr ⟨p, o, h1, eh p o h2 h4, h3.mono e, fun z => h4 (ea p o h2 z)⟩
theorem Ev.refl (I : SI kt K S H σ E) : Ev kt K S H σ E S H E := ⟨I, .refl, fun _ => .refl _⟩
theorem Ev.trans (a : Ev kt K S H σ E S1 H1 E1) (b : Ev kt K S1 H1 σ E1 S2 H2 E2) : Ev kt K S H σ E S2 H2 E2 := ⟨b.si, a.fr.trans b.fr, fun i => (a.cells i).trans (b.cells i)⟩
theorem RepR.step (e : Ev kt K S H σ E S' H' E') (h : RepR kt K S H σ E v r) : RepR kt K S' H' σ E' v r := by
  cases r with
  | val d => exact Rp.mono (le_of e.fr.ex) h
  | fr d =>
    obtain ⟨p, o, hv, hs, ha, hh, ho⟩ := h
    refine ⟨p, o, hv, e.fr.free p (by rw [hh]; exact fun z => nomatch z) hs ha, fun z => ?_, e.fr.keep p o hh ha, ho.mono (le_of e.fr.ex)⟩
    rcases e.fr.own p z with q | q
    · exact ha q
    · rw [q] at hh; cases hh
  | cell i => exact ⟨h.1, (e.cells i).un_iff h.2⟩
theorem New.back (e : ∀ p, H1 p = none → H p = none) (h : New H1 v r) : New H v r := by
  cases r with
  | fr d => exact fun p hp => e p (h p hp)
  | val d => trivial
  | cell i => trivial
theorem vw_ok {k : D → Prop} (I : SI kt K S H σ E) (h : RepR kt K S H σ E v r) (q : vw E r k) : ∃ d, Vw kt K S H v d ∧ k d := by
  cases r with
  | val d => exact ⟨d, .inl h, q⟩
  | fr d =>
    obtain ⟨p, o, hv, hs, ha, hh, ho⟩ := h
    exact ⟨d, .inr ⟨p, o, hv, .inl hh, ho⟩, q⟩
  | cell i =>
    obtain ⟨h1, h2⟩ := h
    have q' : (match nth E i with | .un => False | .val d => k d | .ro d => k d | .own d => k d | .bor d => k d) := q
    cases e : nth E i with
    | un => exact absurd e h2
    | val d =>
      rw [e] at q'
      obtain ⟨w, hw, hr⟩ := I.val i d e
      rw [h1] at hw; cases hw
      exact ⟨d, .inl hr, q'⟩
    | ro d =>
      rw [e] at q'
      obtain ⟨w, hw, hr⟩ := I.ro i d e
      rw [h1] at hw; cases hw
      exact ⟨d, hr.vw, q'⟩
    | own d =>
      rw [e] at q'
      obtain ⟨p, o, hw, hs, hh, ho⟩ := I.own i d (.inl e)
      rw [h1] at hw; cases hw
      exact ⟨d, .inr ⟨p, o, rfl, .inl hh, ho⟩, q'⟩
    | bor d =>
      rw [e] at q'
      obtain ⟨p, o, hw, hs, hh, ho⟩ := I.own i d (.inr e)
      rw [h1] at hw; cases hw
      exact ⟨d, .inr ⟨p, o, rfl, .inl hh, ho⟩, q'⟩
theorem Vw.mono {d : D} (e : Le K S S') (eh : ∀ p o, v = .ref p → RdD H p o → RdD H' p o) (h : Vw kt K S H v d) : Vw kt K S' H' v d := by
  rcases h with h | ⟨p, o, hv, hr, ho⟩
  · exact .inl (h.mono e)
  · exact .inr ⟨p, o, hv, eh p o hv hr, ho.mono e⟩
/-- what lies at p comes to stay -/
theorem SI.stay {p : Addr} {o : HO} (I : SI kt K S H σ E) (hp : H p = some o) (hs : S p = none) (ha : ¬ ownA σ E p) : SI kt K (upd S p o) H σ E := by
  have le : Same S (upd S p o) := fun b u e => by rw [upd_ne (ne_of_none e hs)]; exact e
  refine ⟨fun b u e => ?_, I.len, fun i d e => ?_, fun i d e => ?_, fun i d e => ?_, I.dis⟩
  · by_cases h : b = p
    · subst h; rw [upd_same] at e; cases e; exact hp
    · rw [upd_ne h] at e; exact I.ex b u e
  · obtain ⟨v, h1, h2⟩ := I.val i d e
    exact ⟨v, h1, h2.mono (le_of le)⟩
  · obtain ⟨v, h1, h2⟩ := I.ro i d e
    exact ⟨v, h1, h2.mono (le_of le) (fun _ _ h _ => h) (fun _ _ _ h => h)⟩
  · obtain ⟨q, o', h1, h2, h3, h4⟩ := I.own i d e
    refine ⟨q, o', h1, ?_, h3, h4.mono (le_of le)⟩
    rw [upd_ne (show q ≠ p from fun z => ha (by rw [← z]; exact ⟨i, d, e, h1⟩))]
    exact h2
theorem ownA_put_val {i : Nat} {d : D} {p a : Addr} (I : SI kt K S H σ E) (e : nth E i = .own d) (hp : σ[i]? = some (some (.ref p))) (h : ownA σ (put E i (.val d)) a) : ownA σ E a ∧ a ≠ p := by
  obtain ⟨j, d', hj, hσ⟩ := h
  by_cases hji : j = i
  · subst hji
    rw [nth_put_self (nth_in (by rw [e]; exact fun z => nomatch z))] at hj
    rcases hj with z | z <;> cases z
  · rw [nth_put_ne hji] at hj
    exact ⟨⟨j, d', hj, hσ⟩, fun z => hji (I.dis j i d' d p hj (.inl e) (by rw [← z]; exact hσ) hp)⟩
/-- a slot's own container comes to stay -/
theorem SI.stayCell {i : Nat} {d : D} {p : Addr} {o : HO} (I : SI kt K S H σ E) (e : nth E i = .own d) (hσ : σ[i]? = some (some (.ref p))) (hs : S p = none) (hp : H p = some o) (ho : Own kt K S o d) : SI kt K (upd S p o) H σ (put E i (.val d)) := by
  have le : Same S (upd S p o) := fun b u e => by rw [upd_ne (ne_of_none e hs)]; exact e
  have hi : i < E.length := nth_in (by rw [e]; exact fun z => nomatch z)
  refine ⟨fun b u e => ?_, by rw [put_len]; exact I.len, fun j d' e' => ?_, fun j d' e' => ?_, fun j d' e' => ?_, fun j k d1 d2 q h1 h2 => ?_⟩
  · by_cases h : b = p
    · subst h; rw [upd_same] at e; cases e; exact hp
    · rw [upd_ne h] at e; exact I.ex b u e
  · by_cases hj : j = i
    · subst hj
      rw [nth_put_self hi] at e'; cases e'
      exact ⟨_, hσ, (ho.mono (le_of le)).rp upd_same⟩
    · rw [nth_put_ne hj] at e'
      obtain ⟨v, h1, h2⟩ := I.val j d' e'
      exact ⟨v, h1, h2.mono (le_of le)⟩
  · by_cases hj : j = i
    · subst hj
      rw [nth_put_self hi] at e'; cases e'
    · rw [nth_put_ne hj] at e'
      obtain ⟨v, h1, h2⟩ := I.ro j d' e'
      exact ⟨v, h1, h2.mono (le_of le) (fun _ _ h _ => h) (fun _ _ _ z => (ownA_put_val I e hσ z).1)⟩
  · by_cases hj : j = i
    · subst hj
      rw [nth_put_self hi] at e'
      rcases e' with z | z <;> cases z
    · rw [nth_put_ne hj] at e'
      obtain ⟨q, o', h1, h2, h3, h4⟩ := I.own j d' e'
      refine ⟨q, o', h1, ?_, h3, h4.mono (le_of le)⟩
      rw [upd_ne (show q ≠ p from fun z => hj (I.dis j i d' d p e' (.inl e) (by rw [← z]; exact h1) hσ))]
      exact h2
  · have g : ∀ m dd, (nth (put E i (.val d)) m = .own dd ∨ nth (put E i (.val d)) m = .bor dd) → (nth E m = .own dd ∨ nth E m = .bor dd) := fun m dd z => by
      by_cases hm : m = i
      · subst hm
        rw [nth_put_self hi] at z
        rcases z with z | z <;> cases z
      · rw [nth_put_ne hm] at z; exact z
    exact I.dis j k d1 d2 q (g _ _ h1) (g _ _ h2)
theorem cells_put {i : Nat} {c : Cell} (h : nth E i ≠ .un) (hs : CellStep (nth E i) c) : ∀ j, CellStep (nth E j) (nth (put E i c) j) := fun j => by
  by_cases hj : j = i
  · subst hj; rw [nth_put_self (nth_in h)]; exact hs
  · rw [nth_put_ne hj]; exact .refl _
/-- freezing, from the start S0 H0 A0 on -/
theorem frz_ok {S0 H0 : Hp} {A0 : Addr → Prop} {k : D → List Cell → Prop} (F : Fr S0 H0 A0 S H (ownA σ E)) (I : SI kt K S H σ E) (h : RepR kt K S H σ E v r) (n : New H0 v r) (q : frz E r k) :
    ∃ S' E' d, SI kt K S' H σ E' ∧ Fr S0 H0 A0 S' H (ownA σ E') ∧ (∀ i, CellStep (nth E i) (nth E' i)) ∧ Same S S' ∧ Rp kt K S' v d ∧ k d E' := by
  cases r with
  | val d => exact ⟨S, E, d, I, F, fun _ => .refl _, .refl S, h, q⟩
  | fr d =>
    obtain ⟨p, o, rfl, hs, ha, hh, ho⟩ := h
    have hn : H0 p = none := n p rfl
    have le : Same S (upd S p o) := fun b u e => by rw [upd_ne (ne_of_none e hs)]; exact e
    refine ⟨upd S p o, E, d, I.stay hh hs ha, ⟨F.ex.trans le, F.keep, fun a h1 h2 h3 => ?_, F.own, F.alive⟩, fun _ => .refl _, le, (ho.mono (le_of le)).rp upd_same, q⟩
    rw [upd_ne (show a ≠ p from fun z => h1 (by rw [z]; exact hn))]
    exact F.free a h1 h2 h3
  | cell i =>
    obtain ⟨h1, h2⟩ := h
    have q' : (match nth E i with | .val d => k d E | .own d => k d (put E i (.val d)) | _ => False) := q
    cases e : nth E i with
    | un => exact absurd e h2
    | val d =>
      rw [e] at q'
      obtain ⟨w, hw, hr⟩ := I.val i d e
      rw [h1] at hw; cases hw
      exact ⟨S, E, d, I, F, fun _ => .refl _, .refl S, hr, q'⟩
    | ro d => rw [e] at q'; exact q'.elim
    | bor d => rw [e] at q'; exact q'.elim
    | own d =>
      rw [e] at q'
      obtain ⟨p, o, hw, hs, hh, ho⟩ := I.own i d (.inl e)
      have hvp := hw
      rw [h1] at hw; cases hw
      have le : Same S (upd S p o) := fun b u e => by rw [upd_ne (ne_of_none e hs)]; exact e
      have hA : ownA σ E p := ⟨i, d, .inl e, hvp⟩
      refine ⟨upd S p o, put E i (.val d), d, I.stayCell e hvp hs hh ho, ⟨F.ex.trans le, F.keep, fun a g1 g2 g3 => ?_, fun a z => F.own a (ownA_put_val I e hvp z).1, F.alive⟩, cells_put h2 (by rw [e]; exact .inr ⟨d, rfl⟩), le, (ho.mono (le_of le)).rp upd_same, q'⟩
      rw [upd_ne (show a ≠ p from fun z => ?_)]
      · exact F.free a g1 g2 g3
      · subst z
        rcases F.own a hA with z | z
        · exact g3 z
        · exact g1 z
end
end BD
set_option Elab.async false
set_option linter.all false
set_option maxRecDepth 100000
set_option maxHeartbeats 2000000
/-! BD: judgements over data; names, constants, operators, tests. -/
namespace BD
open PySem PySem.Spec PyProof.Rows L2

abbrev DE := List Cell → (R → List Cell → Prop) → Prop
abbrev DV := List Cell → (D → List Cell → Prop) → Prop
abbrev DT := List Cell → (Bool → List Cell → Prop) → Prop
abbrev DA := List Cell → (List D → List Cell → Prop) → Prop
abbrev DR := List Cell → (List R → List Cell → Prop) → Prop

section
variable (kt : Bool) (K : PySem.W.Frag)
inductive RepRs (S H : Hp) (σ : L2.St) (E : List Cell) : List V → List R → Prop
  | nil : RepRs S H σ E [] []
  | cons {v : V} {vs : List V} {r : R} {rs : List R} : RepR kt K S H σ E v r → RepRs S H σ E vs rs → RepRs S H σ E (v :: vs) (r :: rs)
def LkE (t : TE) (d : DE) : Prop := ∀ (S H : Hp) (σ : L2.St) (E : List Cell) (Q : R → List Cell → Prop) (Q' : VK), SI kt K S H σ E → d E Q →
  (∀ S' H' E' v r, Ev kt K S H σ E S' H' E' → RepR kt K S' H' σ E' v r → New H v r → Q r E' → Q' v H') → t σ H Q'
def LkV (t : TE) (d : DV) : Prop := ∀ (S H : Hp) (σ : L2.St) (E : List Cell) (Q : D → List Cell → Prop) (Q' : VK), SI kt K S H σ E → d E Q →
  (∀ S' H' E' v x, Ev kt K S H σ E S' H' E' → Rp kt K S' v x → Q x E' → Q' v H') → t σ H Q'
def LkT (t : TT) (d : DT) : Prop := ∀ (S H : Hp) (σ : L2.St) (E : List Cell) (Q : Bool → List Cell → Prop) (Q' : Bool → Hp → Prop), SI kt K S H σ E → d E Q →
  (∀ S' H' E' b, Ev kt K S H σ E S' H' E' → Q b E' → Q' b H') → t σ H Q'
def LkA (t : TA) (d : DA) : Prop := ∀ (S H : Hp) (σ : L2.St) (E : List Cell) (Q : List D → List Cell → Prop) (Q' : List V → Hp → Prop), SI kt K S H σ E → d E Q →
  (∀ S' H' E' vs xs, Ev kt K S H σ E S' H' E' → RpL kt K S' vs xs → Q xs E' → Q' vs H') → t σ H Q'
inductive News (H : Hp) : List V → List R → Prop
  | nil : News H [] []
  | cons {v : V} {vs : List V} {r : R} {rs : List R} : New H v r → News H vs rs → News H (v :: vs) (r :: rs)
def LkR (t : TA) (d : DR) : Prop := ∀ (S H : Hp) (σ : L2.St) (E : List Cell) (Q : List R → List Cell → Prop) (Q' : List V → Hp → Prop), SI kt K S H σ E → d E Q →
  (∀ S' H' E' vs rs, Ev kt K S H σ E S' H' E' → RepRs kt K S' H' σ E' vs rs → News H vs rs → Q rs E' → Q' vs H') → t σ H Q'
end
structure SE (X : Cx) (kt : Bool) (e : Expr) (d : DE) : Prop where
  ex : ∃ t, PE X e t ∧ LkE kt X.K t d
structure SV (X : Cx) (kt : Bool) (e : Expr) (d : DV) : Prop where
  ex : ∃ t, PE X e t ∧ LkV kt X.K t d
structure ST (X : Cx) (kt : Bool) (e : Expr) (d : DT) : Prop where
  ex : ∃ t, PT X e t ∧ LkT kt X.K t d
structure SW (X : Cx) (kt : Bool) (e : Expr) (d : DT) : Prop where
  ex : ∃ t, PW X e t ∧ LkT kt X.K t d
structure SA (X : Cx) (kt : Bool) (es : List Expr) (d : DA) : Prop where
  ex : ∃ t, PA X es t ∧ LkA kt X.K t d
structure SR (X : Cx) (kt : Bool) (es : List Expr) (d : DR) : Prop where
  ex : ∃ t, PA X es t ∧ LkR kt X.K t d

section
variable {kt : Bool} {K : PySem.W.Frag} {S H S' H' S1 H1 S2 H2 : Hp} {σ : L2.St} {E E' E1 E2 : List Cell} {v : V} {r : R}
theorem ownA_alive (I : SI kt K S H σ E) {a : Addr} (h : ownA σ E a) : H a ≠ none := by
  obtain ⟨i, d, hi, hσ⟩ := h
  obtain ⟨p, o, h1, h2, h3, h4⟩ := I.own i d hi
  rw [hσ] at h1; cases h1
  rw [h3]; exact fun z => nomatch z
/-- a new object -/
theorem SI.alloc {p : Addr} {o : HO} (I : SI kt K S H σ E) (hp : H p = none) : SI kt K S (upd H p o) σ E := by
  have ne : ∀ {q u}, H q = some u → q ≠ p := fun h => ne_of_none h hp
  have up : ∀ q u, H q = some u → upd H p o q = some u := fun q u h => by rw [upd_ne (ne h)]; exact h
  refine ⟨fun b u e => up b u (I.ex b u e), I.len, I.val, fun i d e => ?_, fun i d e => ?_, I.dis⟩
  · obtain ⟨v, h1, h2⟩ := I.ro i d e
    exact ⟨v, h1, h2.mono .refl (fun q u hr _ => hr.elim (fun z => .inl (up _ _ z)) fun ⟨⟨w, z⟩, y⟩ => .inr ⟨⟨w, up _ _ z⟩, y⟩) (fun _ _ _ z => z)⟩
  · obtain ⟨q, o', h1, h2, h3, h4⟩ := I.own i d e
    exact ⟨q, o', h1, h2, up _ _ h3, h4⟩
theorem Fr.alloc {S0 H0 : Hp} {A0 A : Addr → Prop} {p : Addr} {o : HO} (F : Fr S0 H0 A0 S H A) (hp : H p = none) : Fr S0 H0 A0 S (upd H p o) A :=
  ⟨F.ex, fun a u h n => by rw [upd_ne (ne_of_none (F.keep a u h n) hp)]; exact F.keep a u h n, F.free, F.own, fun a h => by
    by_cases e : a = p
    · subst e; rw [upd_same]; exact fun z => nomatch z
    · rw [upd_ne e]; exact F.alive a h⟩
theorem Ev.alloc {p : Addr} {o : HO} (e : Ev kt K S H σ E S1 H1 E1) (hp : H1 p = none) : Ev kt K S H σ E S1 (upd H1 p o) E1 := ⟨e.si.alloc hp, e.fr.alloc hp, e.cells⟩
/-- what lies at p, newer than the start, comes to stay -/
theorem Ev.stay {p : Addr} {o : HO} (e : Ev kt K S H σ E S1 H1 E1) (hp : H1 p = some o) (hs : S1 p = none) (ha : ¬ ownA σ E1 p) (hn : H p = none) : Ev kt K S H σ E (upd S1 p o) H1 E1 :=
  ⟨e.si.stay hp hs ha, ⟨e.fr.ex.trans fun b u z => by rw [upd_ne (ne_of_none z hs)]; exact z, e.fr.keep, fun a h1 h2 h3 => by
    rw [upd_ne (show a ≠ p from fun z => h1 (by rw [z]; exact hn))]
    exact e.fr.free a h1 h2 h3, e.fr.own, e.fr.alive⟩, e.cells⟩
theorem SI.none (I : SI kt K S H σ E) {p : Addr} (h : H p = none) : S p = none := by
  cases e : S p with
  | none => rfl
  | some o => rw [I.ex p o e] at h; cases h
/-- what an operation may give -/
structure Outs (kt : Bool) (K : PySem.W.Frag) (S H : Hp) (Q : R → Prop) (Q' : VK) : Prop where
  val : ∀ v d, Rp kt K S v d → Q (.val d) → Q' v H
  fr : ∀ p o d, H p = none → Own kt K S o d → Q (.fr d) → Q' (.ref p) (upd H p o)
  tup : ∀ p vs ds, H p = none → RpL kt K S vs ds → Q (.val (.tup ds)) → Q' (.ref p) (upd H p (.tup vs))
  xt : ∀ p (o : Obj) vs ds, H p = none → o.dict = none → RpL kt K S vs ds → Q (.val (.xt ds)) → Q' (.ref p) (upd H p (.frz o (.tup vs)))
  ks : ∀ p vs ds, H p = none → RpL kt K S vs ds → Q (.val (.ks ds)) → Q' (.ref p) (upd H p (.tup vs))
theorem Outs.lst {Q : R → Prop} {Q' : VK} (o : Outs kt K S H Q Q') {p : Addr} {vs : List V} {ds : List D} (hp : H p = none) (r : RpL kt K S vs ds) (q : Q (.fr (.lst ds))) : Q' (.ref p) (upd H p (.lst vs)) := o.fr p _ (.lst ds) hp ⟨vs, rfl, r⟩ q
theorem outs_of {Q : R → List Cell → Prop} {Q' : VK} (e : Ev kt K S H σ E S2 H2 E2) (k : ∀ S' H' E' v r, Ev kt K S H σ E S' H' E' → RepR kt K S' H' σ E' v r → New H v r → Q r E' → Q' v H') :
    Outs kt K S2 H2 (fun r => Q r E2) Q' := by
  refine ⟨fun v d h q => k _ _ _ v (.val d) e h trivial q, fun p o d hp ho q => ?_, fun p vs ds hp hr q => ?_, fun p o vs ds hp hd hr q => ?_, fun p vs ds hp hr q => ?_⟩
  · refine k _ _ _ _ (.fr d) (e.alloc (o := o) hp) ⟨p, o, rfl, e.si.none hp, fun z => ownA_alive e.si z hp, upd_same, ho⟩ (fun q' z => ?_) q
    cases z
    exact e.fr.back hp
  · have e1 := e.alloc (o := .tup vs) hp
    have e2 := e1.stay (o := .tup vs) upd_same (e.si.none hp) (fun z => ownA_alive e.si z hp) (e.fr.back hp)
    have le : Same S2 (upd S2 p (.tup vs)) := fun b u z => by rw [upd_ne (ne_of_none z (e.si.none hp))]; exact z
    exact k _ _ _ _ (.val (.tup ds)) e2 (.tup (.inl upd_same) (hr.mono (le_of le))) trivial q
  · have e1 := e.alloc (o := .frz o (.tup vs)) hp
    have e2 := e1.stay (o := .frz o (.tup vs)) upd_same (e.si.none hp) (fun z => ownA_alive e.si z hp) (e.fr.back hp)
    have le : Same S2 (upd S2 p (.frz o (.tup vs))) := fun b u z => by rw [upd_ne (ne_of_none z (e.si.none hp))]; exact z
    exact k _ _ _ _ (.val (.xt ds)) e2 (.xt upd_same hd (hr.mono (le_of le))) trivial q
  · have e1 := e.alloc (o := .tup vs) hp
    have e2 := e1.stay (o := .tup vs) upd_same (e.si.none hp) (fun z => ownA_alive e.si z hp) (e.fr.back hp)
    have le : Same S2 (upd S2 p (.tup vs)) := fun b u z => by rw [upd_ne (ne_of_none z (e.si.none hp))]; exact z
    exact k _ _ _ _ (.val (.ks ds)) e2 (.ks upd_same (hr.mono (le_of le))) trivial q
end

/-! ### operations on data -/
def OpD (kt : Bool) (K : PySem.W.Frag) (r : R2) (rd : D → D → (R → Prop) → Prop) : Prop := ∀ (S H : Hp) (v1 v2 : V) (d1 d2 : D) (Q : R → Prop) (Q' : VK), Same S H →
  Vw kt K S H v1 d1 → Vw kt K S H v2 d2 → rd d1 d2 Q → Outs kt K S H Q Q' → r v1 v2 H Q'
def dBin (rd : D → D → (R → Prop) → Prop) (da db : DE) : DE := fun E Q => da E fun r1 E1 => db E1 fun r2 E2 => vw E2 r1 fun d1 => vw E2 r2 fun d2 => rd d1 d2 fun r => Q r E2
def UnD (kt : Bool) (K : PySem.W.Frag) (r : V → Hp → VK → Prop) (rd : D → (R → Prop) → Prop) : Prop := ∀ (S H : Hp) (v1 : V) (d1 : D) (Q : R → Prop) (Q' : VK), Same S H →
  Vw kt K S H v1 d1 → rd d1 Q → Outs kt K S H Q Q' → r v1 H Q'
def dUn (rd : D → (R → Prop) → Prop) (da : DE) : DE := fun E Q => da E fun r1 E1 => vw E1 r1 fun d1 => rd d1 fun r => Q r E1
/-- an operator with its reading on data -/
structure OpB (X : Cx) (kt : Bool) (f : Value → Value → Sem Value) (rd : D → D → (R → Prop) → Prop) : Prop where
  ex : ∃ r, OpR X f r ∧ OpD kt X.K r rd
section
variable {X : Cx} {kt : Bool} {a b c e : Expr} {es : List Expr} {pos : Pos} {da db dc : DE} {tx ty tz : DT}
theorem bin_lk {r : R2} {rd : D → D → (R → Prop) → Prop} {K : PySem.W.Frag} {ta tb : TE} (hd : OpD kt K r rd) (la : LkE kt K ta da) (lb : LkE kt K tb db) : LkE kt K (tOp r ta tb) (dBin rd da db) :=
  fun S H σ E Q Q' I h k => la S H σ E _ _ I h fun S1 H1 E1 v1 r1 e1 q1 n1 h1 => lb S1 H1 σ E1 _ _ e1.si h1 fun S2 H2 E2 v2 r2 e2 q2 n2 h2 => by
    obtain ⟨d1, w1, h3⟩ := vw_ok e2.si (q1.step e2) h2
    obtain ⟨d2, w2, h4⟩ := vw_ok e2.si q2 h3
    exact hd S2 H2 v1 v2 d1 d2 _ _ e2.si.ex w1 w2 h4 (outs_of (e1.trans e2) k)
theorem se_bin {op : Operator} {rd : D → D → (R → Prop) → Prop} (o : OpB X kt (binaryOp op) rd) (ha : SE X kt a da) (hb : SE X kt b db) : SE X kt (.BinOp a op b pos) (dBin rd da db) := by
  obtain ⟨r, ho, hd⟩ := o.ex
  obtain ⟨ta, pa, la⟩ := ha.ex
  obtain ⟨tb, pb, lb⟩ := hb.ex
  exact ⟨_, pe_op ho pa pb, bin_lk hd la lb⟩
theorem se_cmp {op : CmpOp} {rd : D → D → (R → Prop) → Prop} (o : OpB X kt (compareOp op) rd) (ha : SE X kt a da) (hb : SE X kt b db) (hm : behindInMarks op b = false := by first | exact nomark _ | with_unfolding_all rfl) : SE X kt (.Compare a [op] [b] pos) (dBin rd da db) := by
  obtain ⟨r, ho, hd⟩ := o.ex
  obtain ⟨ta, pa, la⟩ := ha.ex
  obtain ⟨tb, pb, lb⟩ := hb.ex
  exact ⟨_, pe_cmpR ho pa pb hm, bin_lk hd la lb⟩
theorem se_un {op : UnaryOp} {r : V → Hp → VK → Prop} {rd : D → (R → Prop) → Prop} (ho : UnR X (unaryOp op) r) (hd : UnD kt X.K r rd) (ha : SE X kt a da) : SE X kt (.UnaryOp op a pos) (dUn rd da) := by
  obtain ⟨ta, pa, la⟩ := ha.ex
  exact ⟨_, pe_un ho pa, fun S H σ E Q Q' I h k => la S H σ E _ _ I h fun S1 H1 E1 v1 r1 e1 q1 n1 h1 => by
    obtain ⟨d1, w1, h3⟩ := vw_ok e1.si q1 h1
    exact hd S1 H1 v1 d1 _ _ e1.si.ex w1 h3 (outs_of e1 k)⟩
/-! ### names, constants -/
def dVar (i : Nat) : DE := fun E Q => match nth E i with
  | .un => False
  | .val d => Q (.val d) E
  | _ => Q (.cell i) E
theorem var_lk {K : PySem.W.Frag} {i : Nat} : LkE kt K (tVar i) (dVar i) := fun S H σ E Q Q' I h k => by
  have h' : (match nth E i with | .un => False | .val d => Q (.val d) E | _ => Q (.cell i) E) := h
  cases e : nth E i with
  | un => rw [e] at h'; exact h'.elim
  | val d =>
    rw [e] at h'
    obtain ⟨v, h1, h2⟩ := I.val i d e
    exact ⟨v, h1, k S H E v (.val d) (.refl I) h2 trivial h'⟩
  | ro d =>
    rw [e] at h'
    obtain ⟨v, h1, h2⟩ := I.ro i d e
    exact ⟨v, h1, k S H E v (.cell i) (.refl I) ⟨h1, by rw [e]; exact fun z => nomatch z⟩ trivial h'⟩
  | own d =>
    rw [e] at h'
    obtain ⟨p, o, h1, h2, h3, h4⟩ := I.own i d (.inl e)
    exact ⟨_, h1, k S H E _ (.cell i) (.refl I) ⟨h1, by rw [e]; exact fun z => nomatch z⟩ trivial h'⟩
  | bor d =>
    rw [e] at h'
    obtain ⟨p, o, h1, h2, h3, h4⟩ := I.own i d (.inr e)
    exact ⟨_, h1, k S H E _ (.cell i) (.refl I) ⟨h1, by rw [e]; exact fun z => nomatch z⟩ trivial h'⟩
/-- the name in slot i -/
theorem sv (i : Nat) {x : Str} {pos : Pos} (hN : X.N[i]? = some x := by rfl) (hv : Vis X.env.scope x := by first | exact Or.inl rfl | exact Or.inr (Or.inl rfl) | exact Or.inr (Or.inr rfl)) (hd : (x == ("__debug__" : Str)) = false := by decide)
    (hcd : (x == ("__classdict__" : Str)) = false := by decide) : SE X kt (.Name x pos) (dVar i) := ⟨_, pe_var hN hv hd hcd, var_lk⟩
def dC (d : D) : DE := fun E Q => Q (.val d) E
theorem c_lk {K : PySem.W.Frag} {v : V} {d : D} (h : ∀ S, Rp kt K S v d) : LkE kt K (tC v) (dC d) := fun S H σ E Q Q' I q k => k S H E v (.val d) (.refl I) (h S) trivial q
theorem se_int {i : Int} {j pos} : SE X kt (.Constant (.int i) j pos) (dC (.int i)) := ⟨_, pe_int, c_lk fun _ => .int i⟩
theorem se_bl {b j pos} : SE X kt (.Constant (.bool b) j pos) (dC (.bl b)) := ⟨_, pe_bl, c_lk fun _ => .bl b⟩
theorem se_non {j pos} : SE X kt (.Constant .none j pos) (dC .non) := ⟨_, pe_non, c_lk fun _ => .non⟩
theorem se_str {x j pos} : SE X kt (.Constant (.str x) j pos) (dC (.str x)) := ⟨_, pe_str, c_lk fun _ => .str x⟩
/-- a module's constant int, text -/
theorem se_globI {x : Str} {i : Int} {u : Value} {pos : Pos} (hg : Gl X x) (hm : X.mg x = some u) (r : RelV (.int i) u) (hd : (x == ("__debug__" : Str)) = false := by decide) : SE X kt (.Name x pos) (dC (.int i)) := ⟨_, pe_glob hg hm r hd, c_lk fun _ => .int i⟩
theorem se_globS {x : Str} {z : Str} {u : Value} {pos : Pos} (hg : Gl X x) (hm : X.mg x = some u) (r : RelV (.str z) u) (hd : (x == ("__debug__" : Str)) = false := by decide) : SE X kt (.Name x pos) (dC (.str z)) := ⟨_, pe_glob hg hm r hd, c_lk fun _ => .str z⟩
/-! ### values that stay -/
def dFz (da : DE) : DV := fun E Q => da E fun r E1 => frz E1 r Q
theorem fz_lk {K : PySem.W.Frag} {ta : TE} (la : LkE kt K ta da) : LkV kt K ta (dFz da) := fun S H σ E Q Q' I h k => la S H σ E _ _ I h fun S1 H1 E1 v1 r1 e1 q1 n1 h1 => by
  obtain ⟨S2, E2, d, I2, F2, c2, _, r2, q2⟩ := frz_ok e1.fr e1.si q1 n1 h1
  exact k S2 H1 E2 v1 d ⟨I2, F2, fun i => (e1.cells i).trans (c2 i)⟩ r2 q2
theorem fz (h : SE X kt e da) : SV X kt e (dFz da) := by
  obtain ⟨t, p, l⟩ := h.ex
  exact ⟨t, p, fz_lk l⟩
def dNilA : DA := fun E Q => Q [] E
def dConsA (dv : DV) (dr : DA) : DA := fun E Q => dv E fun x E1 => dr E1 fun xs E2 => Q (x :: xs) E2
theorem sa_nil : SA X kt [] dNilA := ⟨_, pa_nil, fun S H σ E Q Q' I h k => k S H E [] [] (.refl I) .nil h⟩
theorem sa_cons {dv : DE} {dr : DA} (h : SE X kt e dv) (hr : SA X kt es dr) (hs : starEach (e :: es) X.env = (false, eval e X.env) :: starEach es X.env := by rfl) : SA X kt (e :: es) (dConsA (dFz dv) dr) := by
  obtain ⟨t, p, l⟩ := (fz h).ex
  obtain ⟨tr, pr, lr⟩ := hr.ex
  exact ⟨_, pa_cons p pr hs, fun S H σ E Q Q' I h k => l S H σ E _ _ I h fun S1 H1 E1 v1 x1 e1 r1 h1 => lr S1 H1 σ E1 _ _ e1.si h1 fun S2 H2 E2 vs xs e2 rs h2 =>
    k S2 H2 E2 (v1 :: vs) (x1 :: xs) (e1.trans e2) (.cons (r1.mono (le_of e2.fr.ex)) rs) h2⟩
/-! ### displays -/
def dTup (d : DA) : DE := fun E Q => d E fun xs E1 => xs.length ≤ sizeLine ∧ Q (.val (.tup xs)) E1
def dLst (d : DA) : DE := fun E Q => d E fun xs E1 => xs.length ≤ sizeLine ∧ Q (.fr (.lst xs)) E1
theorem se_tup {x1} {d : DA} (h : SA X kt es d) : SE X kt (.Tuple es x1 pos) (dTup d) := by
  obtain ⟨t, p, l⟩ := h.ex
  exact ⟨_, pe_tup p, fun S H σ E Q Q' I h k => l S H σ E _ _ I h fun S1 H1 E1 vs xs e1 r1 h1 => ⟨by rw [r1.length]; exact h1.1, fun p hp => (outs_of e1 k).tup p vs xs hp r1 h1.2⟩⟩
theorem se_lst {d : DA} (h : SA X kt es d) : SE X kt (.List es pos) (dLst d) := by
  obtain ⟨t, p, l⟩ := h.ex
  exact ⟨_, pe_lst p, fun S H σ E Q Q' I h k => l S H σ E _ _ I h fun S1 H1 E1 vs xs e1 r1 h1 => ⟨by rw [r1.length]; exact h1.1, fun p hp => (outs_of e1 k).fr p (.lst vs) (.lst xs) hp ⟨vs, rfl, r1⟩ h1.2⟩⟩
/-! ### tests -/
def dB (da : DE) : DT := fun E Q => da E fun r E1 => match r with
  | .val (.bl b) => Q b E1
  | _ => False
theorem b_lk {K : PySem.W.Frag} {ta : TE} (la : LkE kt K ta da) : LkT kt K (tB ta) (dB da) := fun S H σ E Q Q' I h k => la S H σ E _ _ I h fun S1 H1 E1 v1 r1 e1 q1 n1 h1 => by
  cases r1 with
  | val d =>
    cases d with
    | bl b =>
      cases (show Rp kt K S1 v1 (.bl b) from q1)
      exact ⟨b, rfl, k S1 H1 E1 b e1 h1⟩
    | _ => exact (show False from h1).elim
  | fr d => exact (show False from h1).elim
  | cell i => exact (show False from h1).elim
/-- a comparison as a test -/
theorem st_cmp {op : CmpOp} {rd : D → D → (R → Prop) → Prop} (o : OpB X kt (compareOp op) rd) (ha : SE X kt a da) (hb : SE X kt b db) (hm : behindInMarks op b = false := by first | exact nomark _ | with_unfolding_all rfl) : ST X kt (.Compare a [op] [b] pos) (dB (dBin rd da db)) := by
  obtain ⟨r, ho, hd⟩ := o.ex
  obtain ⟨ta, pa, la⟩ := ha.ex
  obtain ⟨tb, pb, lb⟩ := hb.ex
  exact ⟨_, pt_cmpR ho pa pb hm, b_lk (bin_lk hd la lb)⟩
/-- an expression that gives True or False, as a test -/
theorem st_val (h : SE X kt e da) (he : ∀ whole, isTrue e X.env whole = (do let v ← whole; standAt e.pos; holding [v] (truthy v)) := by intro _; rfl) : ST X kt e (dB da) := by
  obtain ⟨t, p, l⟩ := h.ex
  exact ⟨_, pt_val p he, b_lk l⟩
def tru : D → Bool → Prop
  | .non, k => k = false
  | .bl b, k => k = b
  | .int i, k => k = (i != 0)
  | .str x, k => x.length ≤ sizeLine ∧ k = ((x.length : Int) != 0)
  | .lst xs, k => k = !xs.isEmpty
  | .tup xs, k => k = !xs.isEmpty
  | _, _ => False
def dTru (da : DE) : DT := fun E Q => da E fun r E1 => vw E1 r fun d => ∃ k, tru d k ∧ Q k E1
/-! and, or, not, .. if .. else .. -/
def dAnd (t u : DT) : DT := fun E Q => t E fun b E1 => if b = true then u E1 Q else Q false E1
def dOr (t u : DT) : DT := fun E Q => t E fun b E1 => if b = true then Q true E1 else u E1 Q
def dNot (t : DT) : DT := fun E Q => t E fun b E1 => Q (!b) E1
theorem SW.st (h : SW X kt e tx) : ST X kt e tx := by
  obtain ⟨t, p, l⟩ := h.ex
  exact ⟨t, p.pt, l⟩
theorem sw_and1 (h : ST X kt a tx) : SW X kt (.BoolOp .And [a] pos) tx := by
  obtain ⟨t, p, l⟩ := h.ex
  exact ⟨t, pw_and1 p, l⟩
theorem sw_or1 (h : ST X kt a tx) : SW X kt (.BoolOp .Or [a] pos) tx := by
  obtain ⟨t, p, l⟩ := h.ex
  exact ⟨t, pw_or1 p, l⟩
theorem and_lk {K : PySem.W.Frag} {t u : TT} (l : LkT kt K t tx) (m : LkT kt K u ty) : LkT kt K (tAnd t u) (dAnd tx ty) := fun S H σ E Q Q' I h k => l S H σ E _ _ I h fun S1 H1 E1 b e1 h1 => by
  cases b with
  | true => rw [if_pos rfl] at h1 ⊢; exact m S1 H1 σ E1 _ _ e1.si h1 fun S2 H2 E2 b e2 h2 => k S2 H2 E2 b (e1.trans e2) h2
  | false => rw [if_neg Bool.false_ne_true] at h1 ⊢; exact k S1 H1 E1 false e1 h1
theorem or_lk {K : PySem.W.Frag} {t u : TT} (l : LkT kt K t tx) (m : LkT kt K u ty) : LkT kt K (tOr t u) (dOr tx ty) := fun S H σ E Q Q' I h k => l S H σ E _ _ I h fun S1 H1 E1 b e1 h1 => by
  cases b with
  | true => rw [if_pos rfl] at h1 ⊢; exact k S1 H1 E1 true e1 h1
  | false => rw [if_neg Bool.false_ne_true] at h1 ⊢; exact m S1 H1 σ E1 _ _ e1.si h1 fun S2 H2 E2 b e2 h2 => k S2 H2 E2 b (e1.trans e2) h2
theorem sw_and (h : ST X kt a tx) (hr : SW X kt (.BoolOp .And (b :: es) pos) ty) : SW X kt (.BoolOp .And (a :: b :: es) pos) (dAnd tx ty) := by
  obtain ⟨t, p, l⟩ := h.ex
  obtain ⟨u, q, m⟩ := hr.ex
  exact ⟨_, pw_and p q, and_lk l m⟩
theorem sw_or (h : ST X kt a tx) (hr : SW X kt (.BoolOp .Or (b :: es) pos) ty) : SW X kt (.BoolOp .Or (a :: b :: es) pos) (dOr tx ty) := by
  obtain ⟨t, p, l⟩ := h.ex
  obtain ⟨u, q, m⟩ := hr.ex
  exact ⟨_, pw_or p q, or_lk l m⟩
theorem st_not (h : ST X kt a tx) : ST X kt (.UnaryOp .Not a pos) (dNot tx) := by
  obtain ⟨t, p, l⟩ := h.ex
  exact ⟨_, pt_not p, fun S H σ E Q Q' I h k => l S H σ E _ _ I h fun S1 H1 E1 b e1 h1 => k S1 H1 E1 (!b) e1 h1⟩
def dIf (t : DT) (da db : DE) : DE := fun E Q => t E fun b E1 => if b = true then da E1 Q else db E1 Q
theorem se_if (h : ST X kt c tx) (ha : SE X kt a da) (hb : SE X kt b db) : SE X kt (.IfExp c a b pos) (dIf tx da db) := by
  obtain ⟨t, p, l⟩ := h.ex
  obtain ⟨ta, pa, la⟩ := ha.ex
  obtain ⟨tb, pb, lb⟩ := hb.ex
  refine ⟨_, pe_ifExp p pa pb, fun S H σ E Q Q' I h k => l S H σ E _ _ I h fun S1 H1 E1 b e1 h1 => ?_⟩
  cases b with
  | true =>
    rw [if_pos rfl] at h1 ⊢
    exact la S1 H1 σ E1 _ _ e1.si h1 fun S2 H2 E2 v r e2 q n h2 => k S2 H2 E2 v r (e1.trans e2) q (n.back fun p => e1.fr.back) h2
  | false =>
    rw [if_neg Bool.false_ne_true] at h1 ⊢
    exact lb S1 H1 σ E1 _ _ e1.si h1 fun S2 H2 E2 v r e2 q n h2 => k S2 H2 E2 v r (e1.trans e2) q (n.back fun p => e1.fr.back) h2
/-- and, or, not as values: all True or False -/
def dBl (t : DT) : DE := fun E Q => t E fun b E1 => Q (.val (.bl b)) E1
end
end BD
set_option Elab.async false
set_option linter.all false
set_option maxRecDepth 100000
set_option maxHeartbeats 2000000
/-! BD: operators on data. -/
namespace BD
open PySem PySem.Spec PyProof.Rows L2
section
variable {kt : Bool} {K : PySem.W.Frag} {S H : Hp} {v w : V}
theorem Vw.int {i : Int} (h : Vw kt K S H v (.int i)) : v = .int i := by
  rcases h with h | ⟨p, o, _, _, h⟩
  · cases h; rfl
  · exact (show False from h).elim
theorem Vw.bl {i : Bool} (h : Vw kt K S H v (.bl i)) : v = .bl i := by
  rcases h with h | ⟨p, o, _, _, h⟩
  · cases h; rfl
  · exact (show False from h).elim
theorem Vw.non (h : Vw kt K S H v .non) : v = .non := by
  rcases h with h | ⟨p, o, _, _, h⟩
  · cases h; rfl
  · exact (show False from h).elim
theorem Vw.str {i : Str} (h : Vw kt K S H v (.str i)) : v = .str i := by
  rcases h with h | ⟨p, o, _, _, h⟩
  · cases h; rfl
  · exact (show False from h).elim
theorem RdD.lst {p : Addr} {vs : List V} (h : RdD H p (.lst vs)) : H p = some (.lst vs) := h.elim id fun z => absurd rfl (z.2 vs).1
theorem RdD.tup {p : Addr} {vs : List V} (h : RdD H p (.tup vs)) : H p = some (.tup vs) := h.elim id fun z => absurd rfl (z.2 vs).2
theorem RdD.rd {p : Addr} {o : HO} (h : RdD H p o) : Rd H p o := h.elim .inl fun z => .inr z.1
/-- a list that may be read -/
theorem Vw.lst {ds : List D} (e : Same S H) (h : Vw kt K S H v (.lst ds)) : ∃ p vs, v = .ref p ∧ H p = some (.lst vs) ∧ RpL kt K S vs ds := by
  rcases h with h | ⟨p, o, hv, hr, h⟩
  · cases h with
    | lst h1 h2 => exact ⟨_, _, rfl, e _ _ h1, h2⟩
  · obtain ⟨vs, rfl, h2⟩ := h
    exact ⟨p, vs, hv, hr.lst, h2⟩
theorem TupAt.sqt {a : Addr} {vs : List V} (h : TupAt kt K H a vs) : SqT K H a vs := h.elim (fun z => .inl (.inl z)) fun z => z.2
theorem TupAt.mono {H' : Hp} {a : Addr} {vs : List V} (e : Same H H') (h : TupAt kt K H a vs) : TupAt kt K H' a vs := h.elim (fun z => .inl (e _ _ z)) fun z => .inr ⟨z.1, (le_of e).sqt _ _ z.2⟩
theorem Vw.rpT {ds : List D} (h : Vw kt K S H v (.tup ds)) : Rp kt K S v (.tup ds) := h.elim id fun ⟨_, _, _, _, z⟩ => (show False from z).elim
theorem Vw.tup {ds : List D} (e : Same S H) (h : Vw kt K S H v (.tup ds)) : ∃ p vs, v = .ref p ∧ SqT K H p vs ∧ RpL kt K S vs ds := by
  cases h.rpT with
  | tup h1 h2 => exact ⟨_, _, rfl, (h1.mono e).sqt, h2⟩
theorem Vw.scr {ns : List Int} (e : Same S H) (h : Vw kt K S H v (.scr ns)) : ∃ p, v = .ref p ∧ SqL K H p (ns.map V.int) := by
  rcases h with h | ⟨p, o, hv, hr, h⟩
  · cases h with
    | scr h1 => exact ⟨_, rfl, (le_of e).sql _ _ h1⟩
  · exact (show False from h).elim
theorem RpL.get : ∀ {vs : List V} {ds : List D} {i : Nat} {d : D}, RpL kt K S vs ds → ds[i]? = some d → ∃ v, vs[i]? = some v ∧ Rp kt K S v d
  | _, _, _, _, .nil, h => by simp at h
  | _, _, 0, _, .cons r _, h => by simp at h; subst h; exact ⟨_, rfl, r⟩
  | _, _, i + 1, _, .cons _ t, h => by
    obtain ⟨v, h1, h2⟩ := RpL.get (i := i) t (by simpa using h)
    exact ⟨v, by simpa using h1, h2⟩
theorem RpL.atI {vs : List V} {ds : List D} {i : Int} {d : D} (r : RpL kt K S vs ds) (h : L2.atI ds i = some d) : ∃ v, L2.atI vs i = some v ∧ Rp kt K S v d := by
  unfold L2.atI at h ⊢
  rw [r.length]
  cases e : ixN ds.length i with
  | none => rw [e] at h; cases h
  | some j =>
    rw [e] at h
    exact r.get h
theorem RpL.append : ∀ {vs ws : List V} {ds es : List D}, RpL kt K S vs ds → RpL kt K S ws es → RpL kt K S (vs ++ ws) (ds ++ es)
  | _, _, _, _, .nil, s => s
  | _, _, _, _, .cons r t, s => .cons r (RpL.append t s)
theorem RpL.drop : ∀ {vs : List V} {ds : List D} (n : Nat), RpL kt K S vs ds → RpL kt K S (vs.drop n) (ds.drop n)
  | _, _, 0, r => r
  | _, _, _ + 1, .nil => .nil
  | _, _, n + 1, .cons _ t => RpL.drop n t
theorem RpL.take : ∀ {vs : List V} {ds : List D} (n : Nat), RpL kt K S vs ds → RpL kt K S (vs.take n) (ds.take n)
  | _, _, 0, _ => .nil
  | _, _, _ + 1, .nil => .nil
  | _, _, n + 1, .cons r t => .cons r (RpL.take n t)
theorem RpL.set : ∀ {vs : List V} {ds : List D} (n : Nat) {v : V} {d : D}, RpL kt K S vs ds → Rp kt K S v d → RpL kt K S (vs.set n v) (ds.set n d)
  | _, _, _, _, _, .nil, _ => .nil
  | _, _, 0, _, _, .cons _ t, q => .cons q t
  | _, _, n + 1, _, _, .cons r t, q => .cons r (RpL.set n t q)
theorem RpL.eraseIdx : ∀ {vs : List V} {ds : List D} (n : Nat), RpL kt K S vs ds → RpL kt K S (vs.eraseIdx n) (ds.eraseIdx n)
  | _, _, _, .nil => .nil
  | _, _, 0, .cons _ t => t
  | _, _, n + 1, .cons r t => .cons r (RpL.eraseIdx n t)
theorem RpL.dropLast : ∀ {vs : List V} {ds : List D}, RpL kt K S vs ds → RpL kt K S vs.dropLast ds.dropLast
  | _, _, .nil => .nil
  | _, _, .cons _ .nil => .nil
  | _, _, .cons r (.cons q t) => .cons r (RpL.dropLast (.cons q t))
theorem RpL.reverse : ∀ {vs : List V} {ds : List D}, RpL kt K S vs ds → RpL kt K S vs.reverse ds.reverse
  | _, _, .nil => .nil
  | _, _, .cons r t => by rw [List.reverse_cons, List.reverse_cons]; exact (RpL.reverse t).append (.cons r .nil)
theorem RpL.rep {vs : List V} {ds : List D} (h : RpL kt K S vs ds) : ∀ k : Nat, RpL kt K S (List.replicate k vs).flatten (List.replicate k ds).flatten
  | 0 => .nil
  | k + 1 => by rw [List.replicate_succ, List.replicate_succ, List.flatten_cons, List.flatten_cons]; exact h.append (RpL.rep h k)
theorem rpl_ints : ∀ {vs : List V} {ns : List Int}, RpL kt K S vs (ns.map D.int) → vs = ns.map V.int
  | [], [], _ => rfl
  | _ :: _, _ :: _, .cons r t => by
    cases r
    rw [List.map_cons, ← rpl_ints t]
  | _ :: _, [], h => nomatch h
  | [], _ :: _, h => nomatch h
theorem rpl_strs : ∀ {vs : List V} {ns : List Str}, RpL kt K S vs (ns.map D.str) → vs = ns.map V.str
  | [], [], _ => rfl
  | _ :: _, _ :: _, .cons r t => by
    cases r
    rw [List.map_cons, ← rpl_strs t]
  | _ :: _, [], h => nomatch h
  | [], _ :: _, h => nomatch h
theorem rpl_bls : ∀ {vs : List V} {ns : List Bool}, RpL kt K S vs (ns.map D.bl) → vs = ns.map V.bl
  | [], [], _ => rfl
  | _ :: _, _ :: _, .cons r t => by
    cases r
    rw [List.map_cons, ← rpl_bls t]
  | _ :: _, [], h => nomatch h
  | [], _ :: _, h => nomatch h
theorem rpl_of_ints : ∀ ns : List Int, RpL kt K S (ns.map V.int) (ns.map D.int)
  | [] => .nil
  | n :: r => .cons (.int n) (rpl_of_ints r)
end

/-! ### two ints -/
def dI (g : Int → Int → D) : D → D → (R → Prop) → Prop
  | .int i, .int j, Q => Q (.val (g i j))
  | _, _, _ => False
def dIC (C : Int → Int → Prop) (g : Int → Int → D) : D → D → (R → Prop) → Prop
  | .int i, .int j, Q => C i j ∧ Q (.val (g i j))
  | _, _, _ => False
section
variable {X : Cx} {kt : Bool}
theorem od_I0 {K : PySem.W.Frag} {g : Int → Int → V} {g' : Int → Int → D} (hg : ∀ S i j, Rp kt K S (g i j) (g' i j)) : OpD kt K (rI0 g) (dI g') := by
  intro S H v1 v2 d1 d2 Q Q' e h1 h2 h o
  cases d1 with
  | int i =>
    cases d2 with
    | int j => exact ⟨i, j, h1.int, h2.int, o.val _ _ (hg S i j) h⟩
    | _ => exact (show False from h).elim
  | _ => exact (show False from h).elim
theorem od_IC {K : PySem.W.Frag} {C : Int → Int → Prop} {g : Int → Int → V} {g' : Int → Int → D} (hg : ∀ S i j, Rp kt K S (g i j) (g' i j)) : OpD kt K (rI C g) (dIC C g') := by
  intro S H v1 v2 d1 d2 Q Q' e h1 h2 h o
  cases d1 with
  | int i =>
    cases d2 with
    | int j => exact ⟨i, j, h1.int, h2.int, h.1, o.val _ _ (hg S i j) h.2⟩
    | _ => exact (show False from h).elim
  | _ => exact (show False from h).elim
theorem od_or {K : PySem.W.Frag} {r r' : R2} {d d' : D → D → (R → Prop) → Prop} (h : OpD kt K r d) (h' : OpD kt K r' d') : OpD kt K (fun x y H Q => r x y H Q ∨ r' x y H Q) (fun x y Q => d x y Q ∨ d' x y Q) :=
  fun S H v1 v2 d1 d2 Q Q' e h1 h2 q o => q.elim (fun q => .inl (h S H v1 v2 d1 d2 Q Q' e h1 h2 q o)) fun q => .inr (h' S H v1 v2 d1 d2 Q Q' e h1 h2 q o)
/-- the reading on data may be stronger -/
theorem od_imp {K : PySem.W.Frag} {r : R2} {d d' : D → D → (R → Prop) → Prop} (h : OpD kt K r d) (i : ∀ x y Q, d' x y Q → d x y Q) : OpD kt K r d' := fun S H v1 v2 d1 d2 Q Q' e h1 h2 q o => h S H v1 v2 d1 d2 Q Q' e h1 h2 (i _ _ _ q) o
theorem OpB.or {f : Value → Value → Sem Value} {d d' : D → D → (R → Prop) → Prop} (h : OpB X kt f d) (h' : OpB X kt f d') : OpB X kt f (fun x y Q => d x y Q ∨ d' x y Q) := by
  obtain ⟨r, o, l⟩ := h.ex
  obtain ⟨r', o', l'⟩ := h'.ex
  exact ⟨_, o.or o', od_or l l'⟩
theorem OpB.imp {f : Value → Value → Sem Value} {d d' : D → D → (R → Prop) → Prop} (h : OpB X kt f d) (i : ∀ x y Q, d' x y Q → d x y Q) : OpB X kt f d' := by
  obtain ⟨r, o, l⟩ := h.ex
  exact ⟨r, o, od_imp l i⟩
/-! ### + -/
def dAddS : D → D → (R → Prop) → Prop
  | .str x, .str y, Q => x.length + y.length ≤ sizeLine ∧ Q (.val (.str (x ++ y)))
  | _, _, _ => False
def dCat : D → D → (R → Prop) → Prop
  | .lst x, .lst y, Q => x.length + y.length ≤ sizeLine ∧ Q (.fr (.lst (x ++ y)))
  | _, _, _ => False
def dCatT : D → D → (R → Prop) → Prop
  | .tup x, .tup y, Q => x.length + y.length ≤ sizeLine ∧ Q (.val (.tup (x ++ y)))
  | _, _, _ => False
theorem od_addS {K : PySem.W.Frag} : OpD kt K (fun x y H Q => ∃ i j, x = .str i ∧ y = .str j ∧ i.length + j.length ≤ sizeLine ∧ Q (.str (i ++ j)) H) dAddS := by
  intro S H v1 v2 d1 d2 Q Q' e h1 h2 h o
  cases d1 with
  | str i =>
    cases d2 with
    | str j => exact ⟨i, j, h1.str, h2.str, h.1, o.val _ _ (.str _) h.2⟩
    | _ => exact (show False from h).elim
  | _ => exact (show False from h).elim
end
end BD
set_option Elab.async false
set_option linter.all false
set_option maxRecDepth 100000
set_option maxHeartbeats 2000000
/-! BD: operators on data, further. -/
namespace BD
open PySem PySem.Spec PyProof.Rows L2

/-! ### == -/
mutual
def D.eq : D → D → Bool
  | .non, .non => true
  | .bl a, .bl b => a == b
  | .bl a, .int j => (if a then 1 else 0) == j
  | .int i, .bl b => i == (if b then 1 else 0)
  | .int i, .int j => i == j
  | .str x, .str y => x == y
  | .lst xs, .lst ys => D.eqs xs ys
  | .tup xs, .tup ys => D.eqs xs ys
  | _, _ => false
def D.eqs : List D → List D → Bool
  | [], [] => true
  | x :: xs, y :: ys => D.eq x y && D.eqs xs ys
  | _, _ => false
end
mutual
def py : D → PyData
  | .non => .none
  | .bl b => .bool b
  | .int i => .int i
  | .str x => .str x
  | .lst xs => .list (pys xs)
  | .tup xs => .tuple (pys xs)
  | _ => .dict []
def pys : List D → List PyData
  | [] => []
  | x :: xs => py x :: pys xs
end
/-- data that == goes through: no dicts, at most n deep -/
def okd : Nat → D → Bool
  | _, .non => true
  | _, .bl _ => true
  | _, .int _ => true
  | _, .str x => PyData.strOk x
  | n + 1, .lst xs => xs.all (okd n)
  | n + 1, .tup xs => xs.all (okd n)
  | _, _ => false
theorem eqv_py : ∀ (n : Nat) (a b : D), okd n a = true → okd n b = true → PyData.eqv (py a) (py b) = D.eq a b
  | n, .non, b, _, hb => by cases b <;> first | rfl | (cases n <;> exact nomatch hb) | (simp [py, PyData.eqv, D.eq])
  | n, .bl x, b, _, hb => by cases b <;> first | rfl | (cases n <;> exact nomatch hb) | (simp [py, PyData.eqv, D.eq])
  | n, .int x, b, _, hb => by cases b <;> first | rfl | (cases n <;> exact nomatch hb) | (simp [py, PyData.eqv, D.eq])
  | n, .str x, b, _, hb => by cases b <;> first | rfl | (cases n <;> exact nomatch hb) | (simp [py, PyData.eqv, D.eq])
  | 0, .lst xs, _, h, _ => nomatch h
  | 0, .tup xs, _, h, _ => nomatch h
  | 0, .xt xs, _, h, _ => nomatch h
  | n + 1, .xt xs, _, h, _ => nomatch h
  | 0, .ks xs, _, h, _ => nomatch h
  | n + 1, .ks xs, _, h, _ => nomatch h
  | n, .dk _, _, h, _ => by cases n <;> exact nomatch h
  | n, .dt _, _, h, _ => by cases n <;> exact nomatch h
  | n, .scr _, _, h, _ => by cases n <;> exact nomatch h
  | n + 1, .lst xs, b, h, hb => by
    cases b with
    | lst ys =>
      have h1 : xs.all (okd n) = true := h
      have h2 : ys.all (okd n) = true := hb
      show PyData.eqvAll (pys xs) (pys ys) = D.eqs xs ys
      clear h hb
      induction xs generalizing ys with
      | nil => cases ys <;> rfl
      | cons x r ih =>
        cases ys with
        | nil => rfl
        | cons y t =>
          simp only [List.all_cons, Bool.and_eq_true] at h1 h2
          simp only [pys, PyData.eqvAll, D.eqs]
          rw [eqv_py n x y h1.1 h2.1, ih t h1.2 h2.2]
    | dk _ => exact nomatch hb
    | dt _ => exact nomatch hb
    | scr _ => exact nomatch hb
    | _ => simp [py, PyData.eqv, D.eq]
  | n + 1, .tup xs, b, h, hb => by
    cases b with
    | tup ys =>
      have h1 : xs.all (okd n) = true := h
      have h2 : ys.all (okd n) = true := hb
      show PyData.eqvAll (pys xs) (pys ys) = D.eqs xs ys
      clear h hb
      induction xs generalizing ys with
      | nil => cases ys <;> rfl
      | cons x r ih =>
        cases ys with
        | nil => rfl
        | cons y t =>
          simp only [List.all_cons, Bool.and_eq_true] at h1 h2
          simp only [pys, PyData.eqvAll, D.eqs]
          rw [eqv_py n x y h1.1 h2.1, ih t h1.2 h2.2]
    | dk _ => exact nomatch hb
    | dt _ => exact nomatch hb
    | scr _ => exact nomatch hb
    | _ => simp [py, PyData.eqv, D.eq]
theorem canLay_py : ∀ (n : Nat) (a : D), okd n a = true → (py a).canLay0 = true ∧ (py a).depth ≤ n
  | _, .non, _ => ⟨by simp [py, PyData.canLay0], by simp [py, PyData.depth]⟩
  | _, .bl _, _ => ⟨by simp [py, PyData.canLay0], by simp [py, PyData.depth]⟩
  | _, .int _, _ => ⟨by simp [py, PyData.canLay0], by simp [py, PyData.depth]⟩
  | n, .str x, h => ⟨by
      have h' : PyData.strOk x = true := by cases n <;> exact h
      simpa [py, PyData.canLay0] using h', by simp [py, PyData.depth]⟩
  | 0, .lst xs, h => nomatch h
  | 0, .tup xs, h => nomatch h
  | 0, .xt xs, h => nomatch h
  | n + 1, .xt xs, h => nomatch h
  | 0, .ks xs, h => nomatch h
  | n + 1, .ks xs, h => nomatch h
  | n, .dk _, h => by cases n <;> exact nomatch h
  | n, .dt _, h => by cases n <;> exact nomatch h
  | n, .scr _, h => by cases n <;> exact nomatch h
  | n + 1, .lst xs, h => by
    have h1 : xs.all (okd n) = true := h
    have g : PyData.canLayAll0 (pys xs) = true ∧ PyData.depthAll (pys xs) ≤ n := by
      clear h
      induction xs with
      | nil => simp [pys, PyData.canLayAll0, PyData.depthAll]
      | cons x r ih =>
        simp only [List.all_cons, Bool.and_eq_true] at h1
        have a1 := canLay_py n x h1.1
        have a2 := ih h1.2
        simp only [pys, PyData.canLayAll0, PyData.depthAll, Bool.and_eq_true]
        exact ⟨⟨a1.1, a2.1⟩, Nat.max_le.mpr ⟨a1.2, a2.2⟩⟩
    simp only [py, PyData.canLay0, PyData.depth]
    exact ⟨g.1, Nat.succ_le_succ g.2⟩
  | n + 1, .tup xs, h => by
    have h1 : xs.all (okd n) = true := h
    have g : PyData.canLayAll0 (pys xs) = true ∧ PyData.depthAll (pys xs) ≤ n := by
      clear h
      induction xs with
      | nil => simp [pys, PyData.canLayAll0, PyData.depthAll]
      | cons x r ih =>
        simp only [List.all_cons, Bool.and_eq_true] at h1
        have a1 := canLay_py n x h1.1
        have a2 := ih h1.2
        simp only [pys, PyData.canLayAll0, PyData.depthAll, Bool.and_eq_true]
        exact ⟨⟨a1.1, a2.1⟩, Nat.max_le.mpr ⟨a1.2, a2.2⟩⟩
    simp only [py, PyData.canLay0, PyData.depth]
    exact ⟨g.1, Nat.succ_le_succ g.2⟩
theorem shaped_py {n : Nat} {a : D} (h : okd n a = true) (hn : n ≤ 64) : SeqAt.shaped (py a) = true := by
  have g := canLay_py n a h
  unfold SeqAt.shaped
  rw [g.1, Bool.true_and]
  exact decide_eq_true (Nat.le_trans g.2 hn)
section
variable {kt : Bool} {K : PySem.W.Frag} {S H : Hp} {v w : V}
theorem dp_rp (e : Same S H) : ∀ (n : Nat) (v : V) (d : D), okd n d = true → Rp kt K S v d → Dp K H v (py d)
  | _, _, _, _, .non => .non
  | _, _, _, _, .bl b => .bl b
  | _, _, _, _, .int i => .int i
  | _, _, _, _, .str x => .str x
  | 0, _, _, h, .lst _ _ => nomatch h
  | 0, _, _, h, .tup _ _ => nomatch h
  | 0, _, _, h, .xt _ _ _ => nomatch h
  | n + 1, _, _, h, .xt _ _ _ => nomatch h
  | 0, _, _, h, .ks _ _ => nomatch h
  | n + 1, _, _, h, .ks _ _ => nomatch h
  | n, _, _, h, .dk _ _ => by cases n <;> exact nomatch h
  | n, _, _, h, .dt _ _ => by cases n <;> exact nomatch h
  | n, _, _, h, .scr _ => by cases n <;> exact nomatch h
  | n + 1, _, .lst ds, h, .lst h1 h2 => by
    refine .lst (.inl (.inl (e _ _ h1))) ?_
    have h' : ds.all (okd n) = true := h
    clear h h1
    rename_i vs
    induction ds generalizing vs with
    | nil => cases h2; exact .nil
    | cons x r ih =>
      cases h2 with
      | cons a b =>
        simp only [List.all_cons, Bool.and_eq_true] at h'
        exact .cons (dp_rp e n _ x h'.1 a) (ih _ b h'.2)
  | n + 1, _, .tup ds, h, .tup h1 h2 => by
    refine .tup (h1.mono e).sqt ?_
    have h' : ds.all (okd n) = true := h
    clear h h1
    rename_i vs
    induction ds generalizing vs with
    | nil => cases h2; exact .nil
    | cons x r ih =>
      cases h2 with
      | cons a b =>
        simp only [List.all_cons, Bool.and_eq_true] at h'
        exact .cons (dp_rp e n _ x h'.1 a) (ih _ b h'.2)
theorem dp_all (e : Same S H) {n : Nat} : ∀ {vs : List V} {ds : List D}, ds.all (okd n) = true → RpL kt K S vs ds → DpAll K H vs (pys ds)
  | _, _, _, .nil => .nil
  | _, _, h, .cons a b => by
    simp only [List.all_cons, Bool.and_eq_true] at h
    exact .cons (dp_rp e n _ _ h.1 a) (dp_all e h.2 b)
theorem dp_vw (e : Same S H) {n : Nat} {d : D} (h : okd n d = true) (q : Vw kt K S H v d) : Dp K H v (py d) := by
  rcases q with q | ⟨p, o, rfl, hr, ho⟩
  · exact dp_rp e n v d h q
  · cases d with
    | lst ds =>
      obtain ⟨vs, rfl, r⟩ := ho
      cases n with
      | zero => exact nomatch h
      | succ n => exact .lst (.inl hr.rd) (dp_all e (show ds.all (okd n) = true from h) r)
    | dk _ => cases n <;> exact nomatch h
    | dt _ => cases n <;> exact nomatch h
    | scr _ => cases n <;> exact nomatch h
    | _ => exact (show False from ho).elim
end
/-- scalars that == tells apart at once -/
def sc : D → D → Bool
  | .non, .non => true | .non, .int _ => true | .int _, .non => true | .non, .bl _ => true | .bl _, .non => true | .non, .str _ => true | .str _, .non => true
  | .int _, .int _ => true | .bl _, .bl _ => true | .str _, .str _ => true
  | .int _, .str _ => true | .str _, .int _ => true | .bl _, .str _ => true | .str _, .bl _ => true
  | _, _ => false
def cok (a b : D) : Bool := sc a b || (okd 60 a && okd 60 b)
def dEq (a b : D) (Q : R → Prop) : Prop := cok a b = true ∧ Q (.val (.bl (D.eq a b)))
def dNe (a b : D) (Q : R → Prop) : Prop := cok a b = true ∧ Q (.val (.bl (!D.eq a b)))
section
variable {X : Cx} {kt : Bool} {K : PySem.W.Frag} {S H : Hp} {v w : V}
theorem str_beq (x y : Str) : decide (V.str x = V.str y) = (x == y) := dec_str
theorem sc_vw {a b : D} (h1 : Vw kt K S H v a) (h2 : Vw kt K S H w b) (h : sc a b = true) : scal v w = true ∧ decide (v = w) = D.eq a b := by
  cases a <;> cases b <;> first
    | (exact absurd h Bool.false_ne_true)
    | (cases h1.non; cases h2.non; exact ⟨rfl, rfl⟩)
    | (cases h1.non; cases h2.int; exact ⟨rfl, rfl⟩)
    | (cases h1.int; cases h2.non; exact ⟨rfl, rfl⟩)
    | (cases h1.non; cases h2.bl; exact ⟨rfl, rfl⟩)
    | (cases h1.bl; cases h2.non; exact ⟨rfl, rfl⟩)
    | (cases h1.non; cases h2.str; exact ⟨rfl, rfl⟩)
    | (cases h1.str; cases h2.non; exact ⟨rfl, rfl⟩)
    | (cases h1.int; cases h2.int; exact ⟨rfl, by simp only [D.eq]; exact dec_int⟩)
    | (cases h1.bl; cases h2.bl; exact ⟨rfl, by simp only [D.eq]; exact dec_bl⟩)
    | (cases h1.str; cases h2.str; exact ⟨rfl, by simp only [D.eq]; exact dec_str⟩)
    | (cases h1.int; cases h2.str; exact ⟨rfl, rfl⟩)
    | (cases h1.str; cases h2.int; exact ⟨rfl, rfl⟩)
    | (cases h1.bl; cases h2.str; exact ⟨rfl, rfl⟩)
    | (cases h1.str; cases h2.bl; exact ⟨rfl, rfl⟩)
theorem ob_eq (hu : X.A.units + 64 < cLine) : OpB X kt (compareOp .Eq) dEq := by
  refine ⟨_, op_eq.or (op_eqD hu), fun S H v1 v2 d1 d2 Q Q' e h1 h2 h o => ?_⟩
  obtain ⟨hc, q⟩ := h
  unfold cok at hc
  rw [Bool.or_eq_true, Bool.and_eq_true] at hc
  rcases hc with hc | ⟨a, b⟩
  · obtain ⟨x, y⟩ := sc_vw h1 h2 hc
    exact .inl ⟨x, by rw [y]; exact o.val _ _ (.bl _) q⟩
  · exact .inr ⟨_, _, dp_vw e a h1, dp_vw e b h2, shaped_py a (by decide), shaped_py b (by decide), by rw [eqv_py 60 d1 d2 a b]; exact o.val _ _ (.bl _) q⟩
theorem ob_ne (hu : X.A.units + 64 < cLine) : OpB X kt (compareOp .NotEq) dNe := by
  refine ⟨_, op_ne.or (op_neD hu), fun S H v1 v2 d1 d2 Q Q' e h1 h2 h o => ?_⟩
  obtain ⟨hc, q⟩ := h
  unfold cok at hc
  rw [Bool.or_eq_true, Bool.and_eq_true] at hc
  rcases hc with hc | ⟨a, b⟩
  · obtain ⟨x, y⟩ := sc_vw h1 h2 hc
    exact .inl ⟨x, by rw [y]; exact o.val _ _ (.bl _) q⟩
  · exact .inr ⟨_, _, dp_vw e a h1, dp_vw e b h2, shaped_py a (by decide), shaped_py b (by decide), by rw [eqv_py 60 d1 d2 a b]; exact o.val _ _ (.bl _) q⟩
/-! ### is, is not: the right side None, True, False -/
def isC : D → D → Bool
  | .non, .non => true
  | .bl a, .bl b => a == b
  | _, _ => false
def isConst : D → Bool
  | .non => true
  | .bl _ => true
  | _ => false
def dIs (a b : D) (Q : R → Prop) : Prop := isConst b = true ∧ Q (.val (.bl (isC a b)))
def dIsNot (a b : D) (Q : R → Prop) : Prop := isConst b = true ∧ Q (.val (.bl (!isC a b)))
theorem op_isC : OpR X (compareOp .Is) (fun x y H Q => ∃ b, y = .bl b ∧ Q (.bl (decide (x = .bl b))) H) := by
  intro pins s σ H x y v u Q I rx ry h
  obtain ⟨b, rfl, q⟩ := h
  cases (show u = Value.bool b from ry)
  have g : ∀ z : Value, RelV x z → (z == Value.bool b) = decide (x = .bl b) := fun z r => by
    cases x <;> first
      | (obtain ⟨t, rfl⟩ := r; rfl)
      | (cases r; rfl)
      | (cases r; rename_i c; cases b <;> cases c <;> rfl)
  have p : plainIs v (Value.bool b) = true := by
    cases x <;> first
      | (obtain ⟨t, rfl⟩ := rx; rfl)
      | (cases rx; rfl)
  exact wpAny_is_plain p ⟨.bl _, H, I, by show Value.bool _ = Value.bool _; rw [g v rx], q⟩
theorem op_isNotC : OpR X (compareOp .IsNot) (fun x y H Q => ∃ b, y = .bl b ∧ Q (.bl (!decide (x = .bl b))) H) := by
  intro pins s σ H x y v u Q I rx ry h
  obtain ⟨b, rfl, q⟩ := h
  cases (show u = Value.bool b from ry)
  have g : ∀ z : Value, RelV x z → (z == Value.bool b) = decide (x = .bl b) := fun z r => by
    cases x <;> first
      | (obtain ⟨t, rfl⟩ := r; rfl)
      | (cases r; rfl)
      | (cases r; rename_i c; cases b <;> cases c <;> rfl)
  have p : plainIs v (Value.bool b) = true := by
    cases x <;> first
      | (obtain ⟨t, rfl⟩ := rx; rfl)
      | (cases rx; rfl)
  exact wpAny_isNot_plain p ⟨.bl _, H, I, by show Value.bool _ = Value.bool _; rw [g v rx], q⟩
theorem isC_non {d : D} (h : Vw kt K S H v d) : decide (v = .non) = isC d .non := by
  cases d <;> first
    | (cases h.non; rfl)
    | (cases h.bl; rfl)
    | (cases h.int; rfl)
    | (cases h.str; rfl)
    | (rcases h with h | ⟨p, o, rfl, _, h⟩
       · cases h; rfl
       · rfl)
theorem isC_bl {d : D} {b : Bool} (h : Vw kt K S H v d) : decide (v = .bl b) = isC d (.bl b) := by
  cases d <;> first
    | (cases h.non; rfl)
    | (cases h.bl; exact dec_bl)
    | (cases h.int; rfl)
    | (cases h.str; rfl)
    | (rcases h with h | ⟨p, o, rfl, _, h⟩
       · cases h; rfl
       · rfl)
theorem ob_is : OpB X kt (compareOp .Is) dIs := by
  refine ⟨_, op_isN.or op_isC, fun S H v1 v2 d1 d2 Q Q' e h1 h2 h o => ?_⟩
  obtain ⟨hc, q⟩ := h
  cases d2 with
  | non => exact .inl ⟨h2.non, by rw [isC_non h1]; exact o.val _ _ (.bl _) q⟩
  | bl b => exact .inr ⟨b, h2.bl, by rw [isC_bl h1]; exact o.val _ _ (.bl _) q⟩
  | _ => exact nomatch hc
theorem ob_isNot : OpB X kt (compareOp .IsNot) dIsNot := by
  refine ⟨_, op_notN.or op_isNotC, fun S H v1 v2 d1 d2 Q Q' e h1 h2 h o => ?_⟩
  obtain ⟨hc, q⟩ := h
  cases d2 with
  | non => exact .inl ⟨h2.non, by rw [isC_non h1]; exact o.val _ _ (.bl _) q⟩
  | bl b => exact .inr ⟨b, h2.bl, by rw [isC_bl h1]; exact o.val _ _ (.bl _) q⟩
  | _ => exact nomatch hc
end
end BD
set_option Elab.async false
set_option linter.all false
set_option maxRecDepth 100000
set_option maxHeartbeats 2000000
/-! BD: instances of operators; subscripts, slices, built-ins by name. -/
namespace BD
open PySem PySem.Spec PyProof.Rows L2
def cutL {α : Type} (xs : List α) (lo hi : Option Int) : List α := (xs.drop (HT.sIx xs.length 0 lo)).take (HT.sIx xs.length xs.length hi - HT.sIx xs.length 0 lo)
def dAdd : D → D → (R → Prop) → Prop
  | .int i, .int j, Q => Q (.val (.int (i + j)))
  | .str x, .str y, Q => x.length + y.length ≤ sizeLine ∧ Q (.val (.str (x ++ y)))
  | .lst x, .lst y, Q => x.length + y.length ≤ sizeLine ∧ Q (.fr (.lst (x ++ y)))
  | .tup x, .tup y, Q => x.length + y.length ≤ sizeLine ∧ Q (.val (.tup (x ++ y)))
  | _, _, _ => False
def dMul : D → D → (R → Prop) → Prop
  | .int i, .int j, Q => CMulX i j ∧ Q (.val (.int (i * j)))
  | .lst x, .int k, Q => (-(2 ^ 63) ≤ k ∧ k < 2 ^ 63 ∧ x.length * k.toNat ≤ sizeLine) ∧ Q (.fr (.lst (List.replicate k.toNat x).flatten))
  | .tup x, .int k, Q => (x ≠ [] ∧ 2 ≤ k ∧ k ≤ 1000 ∧ x.length ≤ 1000) ∧ Q (.val (.tup (List.replicate k.toNat x).flatten))
  | _, _, _ => False
/-- a positive divisor: the floor; any small one not 0 -/
def dFdiv : D → D → (R → Prop) → Prop
  | .int i, .int j, Q => (CDivW i j ∧ Q (.val (.int (i / j)))) ∨ (CDivN i j ∧ Q (.val (.int (i.fdiv j))))
  | _, _, _ => False
def dMod : D → D → (R → Prop) → Prop
  | .int i, .int j, Q => 0 < j ∧ Q (.val (.int (i % j)))
  | _, _, _ => False
section
variable {X : Cx} {kt : Bool} {K : PySem.W.Frag} {S H : Hp} {v w : V}
theorem od_catA : OpD kt K (rCatA K) (fun a b Q => ∃ x y, a = .tup x ∧ b = .tup y ∧ x.length + y.length ≤ sizeLine ∧ Q (.val (.tup (x ++ y)))) := by
  intro S H v1 v2 d1 d2 Q Q' e h1 h2 h o
  obtain ⟨x, y, rfl, rfl, hz, q⟩ := h
  have g1 := h1.rpT
  have g2 := h2.rpT
  obtain ⟨p, vs, rfl, hp, r1⟩ := h1.tup e
  obtain ⟨p2, ws, rfl, hq, r2⟩ := h2.tup e
  refine ⟨p, p2, vs, ws, rfl, rfl, hp, hq, by rw [r1.length, r2.length]; exact hz, fun z => ?_, fun z1 z2 => ?_, fun _ _ l hl => o.tup l _ _ hl (r1.append r2) q⟩
  · subst z
    cases r1
    exact o.val _ _ g2 q
  · subst z2
    cases r2
    rw [List.append_nil] at q
    exact o.val _ _ g1 q
theorem ob_add : OpB X kt (binaryOp .Add) dAdd := by
  refine ⟨_, op_add.or (op_add_str.or (op_cat.or op_catA)), fun S H v1 v2 d1 d2 Q Q' e h1 h2 h o => ?_⟩
  cases d1 with
  | int i => cases d2 with
    | int j => exact .inl ⟨_, _, h1.int, h2.int, o.val _ _ (.int _) h⟩
    | _ => exact (show False from h).elim
  | str i => cases d2 with
    | str j => exact .inr (.inl ⟨_, _, h1.str, h2.str, h.1, o.val _ _ (.str _) h.2⟩)
    | _ => exact (show False from h).elim
  | lst i => cases d2 with
    | lst j =>
      obtain ⟨p, vs, rfl, hp, r1⟩ := h1.lst e
      obtain ⟨q, ws, rfl, hq, r2⟩ := h2.lst e
      exact .inr (.inr (.inl ⟨p, q, vs, ws, rfl, rfl, hp, hq, by rw [r1.length, r2.length]; exact h.1, fun l hl => o.lst hl (r1.append r2) h.2⟩))
    | _ => exact (show False from h).elim
  | tup i => cases d2 with
    | tup j => exact .inr (.inr (.inr (od_catA S H v1 v2 _ _ Q Q' e h1 h2 ⟨_, _, rfl, rfl, h.1, h.2⟩ o)))
    | _ => exact (show False from h).elim
  | _ => exact (show False from h).elim
theorem ob_sub : OpB X kt (binaryOp .Sub) (dI fun i j => .int (i - j)) := ⟨_, op_sub, od_I0 fun _ _ _ => .int _⟩
theorem ob_mul : OpB X kt (binaryOp .Mult) dMul := by
  refine ⟨_, op_mulX.or (op_rep.or op_repT), fun S H v1 v2 d1 d2 Q Q' e h1 h2 h o => ?_⟩
  cases d1 with
  | int i => cases d2 with
    | int j => exact .inl ⟨_, _, h1.int, h2.int, h.1, o.val _ _ (.int _) h.2⟩
    | _ => exact (show False from h).elim
  | lst i => cases d2 with
    | int j =>
      obtain ⟨p, vs, rfl, hp, r1⟩ := h1.lst e
      exact .inr (.inl ⟨p, j, vs, rfl, h2.int, hp, h.1.1, h.1.2.1, by rw [r1.length]; exact h.1.2.2, fun l hl => o.lst hl (r1.rep _) h.2⟩)
    | _ => exact (show False from h).elim
  | tup i => cases d2 with
    | int j =>
      obtain ⟨p, vs, rfl, hp, r1⟩ := h1.tup e
      exact .inr (.inr ⟨p, j, vs, rfl, h2.int, hp, fun z => h.1.1 (by subst z; cases r1; rfl), h.1.2.1, h.1.2.2.1, by rw [r1.length]; exact h.1.2.2.2, fun l hl => o.tup l _ _ hl (r1.rep _) h.2⟩)
    | _ => exact (show False from h).elim
  | _ => exact (show False from h).elim
theorem ob_fdiv : OpB X kt (binaryOp .FloorDiv) dFdiv := by
  refine ⟨_, op_fdivW.or op_fdivN, fun S H v1 v2 d1 d2 Q Q' e h1 h2 h o => ?_⟩
  cases d1 with
  | int i => cases d2 with
    | int j =>
      rcases h with h | h
      · exact .inl ⟨_, _, h1.int, h2.int, h.1, o.val _ _ (.int _) h.2⟩
      · exact .inr ⟨_, _, h1.int, h2.int, h.1, o.val _ _ (.int _) h.2⟩
    | _ => exact (show False from h).elim
  | _ => exact (show False from h).elim
theorem ob_mod : OpB X kt (binaryOp .Mod) dMod := by
  refine ⟨_, op_mod, fun S H v1 v2 d1 d2 Q Q' e h1 h2 h o => ?_⟩
  cases d1 with
  | int i => cases d2 with
    | int j => exact ⟨_, _, h1.int, h2.int, h.1, o.val _ _ (.int _) h.2⟩
    | _ => exact (show False from h).elim
  | _ => exact (show False from h).elim
theorem ob_pow : OpB X kt (binaryOp .Pow) (dIC CPow fun i j => .int (i ^ j.toNat)) := ⟨_, op_pow, od_IC fun _ _ _ => .int _⟩
/-! ### order -/
def sltb (x y : Str) : Bool := decide (x.cps.toList < y.cps.toList)
def dLt : D → D → (R → Prop) → Prop
  | .int i, .int j, Q => Q (.val (.bl (decide (i < j))))
  | .str i, .str j, Q => Q (.val (.bl (sltb i j)))
  | _, _, _ => False
def dLe : D → D → (R → Prop) → Prop
  | .int i, .int j, Q => Q (.val (.bl (decide (i ≤ j))))
  | .str i, .str j, Q => Q (.val (.bl (!sltb j i)))
  | _, _, _ => False
def dGt : D → D → (R → Prop) → Prop
  | .int i, .int j, Q => Q (.val (.bl (decide (j < i))))
  | .str i, .str j, Q => Q (.val (.bl (sltb j i)))
  | _, _, _ => False
def dGe : D → D → (R → Prop) → Prop
  | .int i, .int j, Q => Q (.val (.bl (decide (j ≤ i))))
  | .str i, .str j, Q => Q (.val (.bl (!sltb i j)))
  | _, _, _ => False
theorem ob_lt : OpB X kt (compareOp .Lt) dLt := by
  refine ⟨_, op_lt.or op_lt_str, fun S H v1 v2 d1 d2 Q Q' e h1 h2 h o => ?_⟩
  cases d1 <;> cases d2 <;> first
    | exact (show False from h).elim
    | exact .inl ⟨_, _, h1.int, h2.int, o.val _ _ (.bl _) h⟩
    | exact .inr ⟨_, _, h1.str, h2.str, o.val _ _ (.bl _) h⟩
theorem ob_le : OpB X kt (compareOp .LtE) dLe := by
  refine ⟨_, op_le.or op_le_str, fun S H v1 v2 d1 d2 Q Q' e h1 h2 h o => ?_⟩
  cases d1 <;> cases d2 <;> first
    | exact (show False from h).elim
    | exact .inl ⟨_, _, h1.int, h2.int, o.val _ _ (.bl _) h⟩
    | exact .inr ⟨_, _, h1.str, h2.str, o.val _ _ (.bl _) h⟩
theorem ob_gt : OpB X kt (compareOp .Gt) dGt := by
  refine ⟨_, op_gt.or op_gt_str, fun S H v1 v2 d1 d2 Q Q' e h1 h2 h o => ?_⟩
  cases d1 <;> cases d2 <;> first
    | exact (show False from h).elim
    | exact .inl ⟨_, _, h1.int, h2.int, o.val _ _ (.bl _) h⟩
    | exact .inr ⟨_, _, h1.str, h2.str, o.val _ _ (.bl _) h⟩
theorem ob_ge : OpB X kt (compareOp .GtE) dGe := by
  refine ⟨_, op_ge.or op_ge_str, fun S H v1 v2 d1 d2 Q Q' e h1 h2 h o => ?_⟩
  cases d1 <;> cases d2 <;> first
    | exact (show False from h).elim
    | exact .inl ⟨_, _, h1.int, h2.int, o.val _ _ (.bl _) h⟩
    | exact .inr ⟨_, _, h1.str, h2.str, o.val _ _ (.bl _) h⟩
/-! ### in, not in: of lists (data of any depth), of tuples (flat items), a sign in a text -/
def flt : D → Bool
  | .non => true | .bl _ => true | .int _ => true | .str _ => true | _ => false
def dInB (b : Bool → Bool) : D → D → (R → Prop) → Prop
  | x, .lst xs, Q => (okd 60 x = true ∧ xs.all (okd 59) = true) ∧ Q (.val (.bl (b (xs.any fun z => D.eq z x))))
  | x, .tup xs, Q => (flt x = true ∧ xs.all flt = true) ∧ Q (.val (.bl (b (xs.any fun z => D.eq z x))))
  | .str c, .str z, Q => ∃ k, c = ⟨#[k]⟩ ∧ Q (.val (.bl (b (decide (k ∈ z.cps.toList)))))
  | _, _, _ => False
theorem flt_vw {d : D} (h : flt d = true) (q : Rp kt K S v d) : flatV v = true := by
  cases q <;> first | rfl | exact nomatch h
theorem eq_flt {w : V} {x y : D} (hx : flt x = true) (hy : flt y = true) (p : Rp kt K S v x) (q : Rp kt K S w y) : eqV v w = D.eq x y := by
  cases p <;> cases q <;> first | exact absurd hx Bool.false_ne_true | exact absurd hy Bool.false_ne_true | rfl | (simp only [D.eq, eqV])
theorem any_flt {w : V} {x : D} (hx : flt x = true) (p : Rp kt K S w x) : ∀ {vs : List V} {ds : List D}, ds.all flt = true → RpL kt K S vs ds → vs.all flatV = true ∧ inV w vs = ds.any fun z => D.eq z x
  | _, _, _, .nil => ⟨rfl, rfl⟩
  | _, _, h, .cons r t => by
    simp only [List.all_cons, Bool.and_eq_true] at h ⊢
    obtain ⟨a, b⟩ := any_flt hx p h.2 t
    refine ⟨⟨flt_vw h.1 r, a⟩, ?_⟩
    unfold inV at b ⊢
    rw [List.any_cons, List.any_cons, b, eq_flt h.1 hx r p]
theorem any_py {x : D} (hx : okd 60 x = true) : ∀ {ds : List D}, ds.all (okd 59) = true → ((pys ds).any fun z => PyData.eqv z (py x)) = ds.any fun z => D.eq z x
  | [], _ => rfl
  | d :: r, h => by
    simp only [List.all_cons, Bool.and_eq_true] at h
    have h60 : okd 60 d = true := by
      have mono : ∀ (n : Nat) (d : D), okd n d = true → okd (n + 1) d = true := by
        intro n
        induction n with
        | zero => intro d h; cases d <;> first | exact h | exact nomatch h
        | succ n ih =>
          intro d h
          cases d with
          | lst xs => exact List.all_eq_true.mpr fun z hz => ih z (List.all_eq_true.mp h z hz)
          | tup xs => exact List.all_eq_true.mpr fun z hz => ih z (List.all_eq_true.mp h z hz)
          | _ => exact h
      exact mono 59 d h.1
    simp only [pys, List.any_cons]
    rw [any_py hx h.2, eqv_py 60 d x h60 hx]
theorem flt_of_vw {d : D} (h : flt d = true) (q : Vw kt K S H v d) : Rp kt K S v d := by
  rcases q with q | ⟨_, _, _, _, q⟩
  · exact q
  · cases d <;> first | exact (show False from q).elim | exact nomatch h
theorem ob_in (hu : X.A.units + 65 < cLine) : OpB X kt (compareOp .In) (dInB id) := by
  refine ⟨_, (op_inD hu).or (op_in_seq.or op_in_sign), fun S H v1 v2 d1 d2 Q Q' e h1 h2 h o => ?_⟩
  cases d2 with
  | lst xs =>
    obtain ⟨⟨a, b⟩, q⟩ := (show (okd 60 d1 = true ∧ xs.all (okd 59) = true) ∧ Q (.val (.bl (xs.any fun z => D.eq z d1))) by cases d1 <;> exact h)
    refine .inl ⟨py d1, pys xs, dp_vw e a h1, dp_vw e (n := 60) (show okd 60 (.lst xs) = true from b) h2, shaped_py a (by decide), shaped_py (n := 60) (show okd 60 (.lst xs) = true from b) (by decide), ?_⟩
    rw [any_py a b]
    exact o.val _ _ (.bl _) q
  | tup xs =>
    obtain ⟨⟨a, b⟩, q⟩ := (show (flt d1 = true ∧ xs.all flt = true) ∧ Q (.val (.bl (xs.any fun z => D.eq z d1))) by cases d1 <;> exact h)
    obtain ⟨p, vs, rfl, hp, r1⟩ := h2.tup e
    have g := flt_of_vw a h1
    obtain ⟨c, d⟩ := any_flt a g b r1
    refine .inr (.inl ⟨p, vs, rfl, .inr hp, flt_vw a g, c, ?_⟩)
    rw [if_neg Bool.false_ne_true, d]
    exact o.val _ _ (.bl _) q
  | str z =>
    cases d1 with
    | str c =>
      obtain ⟨k, rfl, q⟩ := h
      exact .inr (.inr ⟨k, z, h1.str, h2.str, o.val _ _ (.bl _) q⟩)
    | _ => exact (show False from h).elim
  | _ => exact (show False by cases d1 <;> exact h).elim
theorem ob_notIn (hu : X.A.units + 65 < cLine) : OpB X kt (compareOp .NotIn) (dInB not) := by
  refine ⟨_, (op_notInD hu).or (op_notIn_seq.or op_notIn_sign), fun S H v1 v2 d1 d2 Q Q' e h1 h2 h o => ?_⟩
  cases d2 with
  | lst xs =>
    obtain ⟨⟨a, b⟩, q⟩ := (show (okd 60 d1 = true ∧ xs.all (okd 59) = true) ∧ Q (.val (.bl (!xs.any fun z => D.eq z d1))) by cases d1 <;> exact h)
    refine .inl ⟨py d1, pys xs, dp_vw e a h1, dp_vw e (n := 60) (show okd 60 (.lst xs) = true from b) h2, shaped_py a (by decide), shaped_py (n := 60) (show okd 60 (.lst xs) = true from b) (by decide), ?_⟩
    rw [any_py a b]
    exact o.val _ _ (.bl _) q
  | tup xs =>
    obtain ⟨⟨a, b⟩, q⟩ := (show (flt d1 = true ∧ xs.all flt = true) ∧ Q (.val (.bl (!xs.any fun z => D.eq z d1))) by cases d1 <;> exact h)
    obtain ⟨p, vs, rfl, hp, r1⟩ := h2.tup e
    have g := flt_of_vw a h1
    obtain ⟨c, d⟩ := any_flt a g b r1
    refine .inr (.inl ⟨p, vs, rfl, .inr hp, flt_vw a g, c, ?_⟩)
    rw [if_pos rfl, d]
    exact o.val _ _ (.bl _) q
  | str z =>
    cases d1 with
    | str c =>
      obtain ⟨k, rfl, q⟩ := h
      exact .inr (.inr ⟨k, z, h1.str, h2.str, o.val _ _ (.bl _) q⟩)
    | _ => exact (show False from h).elim
  | _ => exact (show False by cases d1 <;> exact h).elim
end
end BD
set_option Elab.async false
set_option linter.all false
set_option maxRecDepth 100000
set_option maxHeartbeats 2000000
/-! BD: subscripts, slices, and/or/not as values, built-ins by name, methods of texts. -/
namespace BD
open PySem PySem.Spec PyProof.Rows L2
def dIx : D → D → (R → Prop) → Prop
  | .lst xs, .int i, Q => ∃ d, atI xs i = some d ∧ Q (.val d)
  | .tup xs, .int i, Q => ∃ d, atI xs i = some d ∧ Q (.val d)
  | .str z, .int i, Q => z.length ≤ sizeLine ∧ ∃ c, atI z.cps.toList i = some c ∧ Q (.val (.str ⟨#[c]⟩))
  | .scr ns, .int i, Q => ∃ n, atI ns i = some n ∧ Q (.val (.int n))
  | _, _, _ => False
def dSl (d : D) (lo hi : Option Int) (Q : R → Prop) : Prop := match d with
  | .lst xs => Q (.fr (.lst (cutL xs lo hi)))
  | .tup xs => Q (.val (.tup (cutL xs lo hi)))
  | .str z => z.length ≤ sizeLine ∧ Q (.val (.str (cutS z lo hi)))
  | _ => False
abbrev DO := List Cell → (Option Int → List Cell → Prop) → Prop
def LkO (kt : Bool) (K : PySem.W.Frag) (t : TO) (d : DO) : Prop := ∀ (S H : Hp) (σ : L2.St) (E : List Cell) (Q : Option Int → List Cell → Prop) (Q' : Option Int → Hp → Prop), SI kt K S H σ E → d E Q →
  (∀ S' H' E' o, Ev kt K S H σ E S' H' E' → Q o E' → Q' o H') → t σ H Q'
structure SO (X : Cx) (kt : Bool) (e : Option Expr) (d : DO) : Prop where
  ex : ∃ t, PO X e t ∧ LkO kt X.K t d
def dNoPart : DO := fun E Q => Q none E
def dPart (da : DE) : DO := fun E Q => da E fun r E1 => vw E1 r fun d => match d with
  | .int i => Q (some i) E1
  | _ => False
def dSlice (da : DE) (lo hi : DO) : DE := fun E Q => da E fun r E1 => lo E1 fun l E2 => hi E2 fun u E3 => vw E3 r fun d => dSl d l u fun r => Q r E3
section
variable {X : Cx} {kt : Bool} {K : PySem.W.Frag} {a b e : Expr} {es : List Expr} {da db : DE} {pos : Pos} {x : Str}
theorem atI_map {α β : Type} (f : α → β) (xs : List α) (i : Int) : atI (xs.map f) i = (atI xs i).map f := by
  unfold atI
  rw [List.length_map]
  cases ixN xs.length i with
  | none => rfl
  | some j => show (xs.map f)[j]? = xs[j]?.map f; rw [List.getElem?_map]
theorem od_ix : OpD kt K (rIx K) dIx := by
  intro S H v1 v2 d1 d2 Q Q' e h1 h2 h o
  cases d2 with
  | int i =>
    cases d1 with
    | lst xs =>
      obtain ⟨d, hd, q⟩ := h
      obtain ⟨p, vs, rfl, hp, r⟩ := h1.lst e
      obtain ⟨v, h3, h4⟩ := r.atI hd
      exact .inl ⟨p, vs, i, v, rfl, h2.int, .of hp, h3, o.val _ _ h4 q⟩
    | tup xs =>
      obtain ⟨d, hd, q⟩ := h
      obtain ⟨p, vs, rfl, hp, r⟩ := h1.tup e
      obtain ⟨v, h3, h4⟩ := r.atI hd
      exact .inr (.inl ⟨p, vs, i, v, rfl, h2.int, hp, h3, o.val _ _ h4 q⟩)
    | str z =>
      obtain ⟨hz, c, hc, q⟩ := h
      exact .inr (.inr ⟨z, i, c, h1.str, h2.int, hz, hc, o.val _ _ (.str _) q⟩)
    | scr ns =>
      obtain ⟨n, hn, q⟩ := h
      obtain ⟨p, rfl, hp⟩ := h1.scr e
      exact .inl ⟨p, ns.map V.int, i, .int n, rfl, h2.int, hp, by rw [atI_map, hn]; rfl, o.val _ _ (.int _) q⟩
    | _ => exact (show False from h).elim
  | _ => exact (show False by cases d1 <;> exact h).elim
theorem se_ix (ha : SE X kt a da) (hb : SE X kt b db) (hs : PlainIx b := by exact fun _ _ => rfl) : SE X kt (.Subscript a b pos) (dBin dIx da db) := by
  obtain ⟨ta, pa, la⟩ := ha.ex
  obtain ⟨tb, pb, lb⟩ := hb.ex
  exact ⟨_, pe_ix ix_seq pa pb hs, bin_lk od_ix la lb⟩
theorem so_none : SO X kt none dNoPart := ⟨_, po_none, fun S H σ E Q Q' I h k => k S H E none (.refl I) h⟩
theorem so_some (ha : SE X kt a da) : SO X kt (some a) (dPart da) := by
  obtain ⟨ta, pa, la⟩ := ha.ex
  refine ⟨_, po_some pa, fun S H σ E Q Q' I h k => la S H σ E _ _ I h fun S1 H1 E1 v1 r1 e1 q1 n1 h1 => ?_⟩
  obtain ⟨d, w, h2⟩ := vw_ok e1.si q1 h1
  cases d with
  | int i => exact ⟨i, w.int, k S1 H1 E1 (some i) e1 h2⟩
  | _ => exact (show False from h2).elim
theorem cutV_eq (xs : List V) (lo hi : Option Int) : cutV xs lo hi = cutL xs lo hi := rfl
theorem RpL.cut {S : Hp} {vs : List V} {ds : List D} (r : RpL kt K S vs ds) (lo hi : Option Int) : RpL kt K S (cutV vs lo hi) (cutL ds lo hi) := by
  unfold cutV cutL
  rw [r.length]
  exact (r.drop _).take _
theorem cut_all {α : Type} {xs : List α} {lo hi : Option Int} (h : HT.sIx xs.length 0 lo = 0 ∧ HT.sIx xs.length xs.length hi = xs.length) : cutL xs lo hi = xs := by
  unfold cutL
  rw [h.1, h.2, List.drop_zero, Nat.sub_zero, List.take_length]
theorem se_slice {p2 : Pos} {lo hi : Option Expr} {dl dh : DO} (ha : SE X kt a da) (hl : SO X kt lo dl) (hh : SO X kt hi dh) : SE X kt (.Subscript a (.Slice lo hi none p2) pos) (dSlice da dl dh) := by
  obtain ⟨ta, pa, la⟩ := ha.ex
  obtain ⟨tl, pl, ll⟩ := hl.ex
  obtain ⟨th, ph, lh⟩ := hh.ex
  refine ⟨_, pe_slice (sl_str.or (sl_list.or sl_tupA)) pa pl ph, fun S H σ E Q Q' I h k => la S H σ E _ _ I h fun S1 H1 E1 v1 r1 e1 q1 n1 h1 => ll S1 H1 σ E1 _ _ e1.si h1 fun S2 H2 E2 l e2 h2 => lh S2 H2 σ E2 _ _ e2.si h2 fun S3 H3 E3 u e3 h3 => ?_⟩
  have e23 := e2.trans e3
  have e13 := e1.trans e23
  obtain ⟨d, w, h4⟩ := vw_ok e3.si (q1.step e23) h3
  have o := outs_of e13 k
  cases d with
  | str z => exact .inl ⟨z, w.str, h4.1, o.val _ _ (.str _) h4.2⟩
  | lst xs =>
    obtain ⟨p, vs, rfl, hp, r⟩ := w.lst e3.si.ex
    exact .inr (.inl ⟨p, vs, rfl, .of hp, fun q hq => o.lst hq (r.cut _ _) h4⟩)
  | tup xs =>
    have g := w.rpT
    obtain ⟨p, vs, rfl, hp, r⟩ := w.tup e3.si.ex
    refine .inr (.inr ⟨p, vs, rfl, hp, fun z => ?_, fun _ q hq => o.tup q _ _ hq (r.cut _ _) h4⟩)
    have h4' : Q (.val (.tup (cutL xs l u))) E3 := h4
    rw [cut_all (by rw [← r.length]; exact z)] at h4'
    exact o.val _ _ g h4'
  | _ => exact (show False from h4).elim
/-! ### and, or, not as values -/
def dAndV (da db : DE) : DE := fun E Q => da E fun r E1 => match r with
  | .val (.bl b) => if b = true then db E1 Q else Q (.val (.bl false)) E1
  | _ => False
def dOrV (da db : DE) : DE := fun E Q => da E fun r E1 => match r with
  | .val (.bl b) => if b = true then Q (.val (.bl true)) E1 else db E1 Q
  | _ => False
def dNotV (da : DE) : DE := fun E Q => da E fun r E1 => match r with
  | .val (.bl b) => Q (.val (.bl (!b))) E1
  | _ => False
theorem se_one {op} (ha : SE X kt a da) : SE X kt (.BoolOp op [a] pos) da := by
  obtain ⟨ta, pa, la⟩ := ha.ex
  exact ⟨ta, pe_one pa, la⟩
theorem se_and (ha : SE X kt a da) (hb : SE X kt (.BoolOp .And (b :: es) pos) db) : SE X kt (.BoolOp .And (a :: b :: es) pos) (dAndV da db) := by
  obtain ⟨ta, pa, la⟩ := ha.ex
  obtain ⟨tb, pb, lb⟩ := hb.ex
  refine ⟨_, pe_and pa pb, fun S H σ E Q Q' I h k => la S H σ E _ _ I h fun S1 H1 E1 v1 r1 e1 q1 n1 h1 => ?_⟩
  cases r1 with
  | val d =>
    cases d with
    | bl c =>
      cases (show Rp kt X.K S1 v1 (.bl c) from q1)
      refine ⟨c, rfl, ?_⟩
      cases c with
      | true =>
        have h1' : db E1 Q := h1
        rw [if_pos rfl]
        exact lb S1 H1 σ E1 _ _ e1.si h1' fun S2 H2 E2 v r e2 q n h2 => k S2 H2 E2 v r (e1.trans e2) q (n.back fun p => e1.fr.back) h2
      | false =>
        rw [if_neg Bool.false_ne_true]
        exact k S1 H1 E1 (.bl false) (.val (.bl false)) e1 (.bl false) trivial h1
    | _ => exact (show False from h1).elim
  | fr d => exact (show False from h1).elim
  | cell i => exact (show False from h1).elim
theorem se_or (ha : SE X kt a da) (hb : SE X kt (.BoolOp .Or (b :: es) pos) db) : SE X kt (.BoolOp .Or (a :: b :: es) pos) (dOrV da db) := by
  obtain ⟨ta, pa, la⟩ := ha.ex
  obtain ⟨tb, pb, lb⟩ := hb.ex
  refine ⟨_, pe_or pa pb, fun S H σ E Q Q' I h k => la S H σ E _ _ I h fun S1 H1 E1 v1 r1 e1 q1 n1 h1 => ?_⟩
  cases r1 with
  | val d =>
    cases d with
    | bl c =>
      cases (show Rp kt X.K S1 v1 (.bl c) from q1)
      refine ⟨c, rfl, ?_⟩
      cases c with
      | true =>
        rw [if_pos rfl]
        exact k S1 H1 E1 (.bl true) (.val (.bl true)) e1 (.bl true) trivial h1
      | false =>
        have h1' : db E1 Q := h1
        rw [if_neg Bool.false_ne_true]
        exact lb S1 H1 σ E1 _ _ e1.si h1' fun S2 H2 E2 v r e2 q n h2 => k S2 H2 E2 v r (e1.trans e2) q (n.back fun p => e1.fr.back) h2
    | _ => exact (show False from h1).elim
  | fr d => exact (show False from h1).elim
  | cell i => exact (show False from h1).elim
theorem se_not (ha : SE X kt a da) : SE X kt (.UnaryOp .Not a pos) (dNotV da) := by
  obtain ⟨ta, pa, la⟩ := ha.ex
  refine ⟨_, pe_not pa, fun S H σ E Q Q' I h k => la S H σ E _ _ I h fun S1 H1 E1 v1 r1 e1 q1 n1 h1 => ?_⟩
  cases r1 with
  | val d =>
    cases d with
    | bl c =>
      cases (show Rp kt X.K S1 v1 (.bl c) from q1)
      exact ⟨c, rfl, k S1 H1 E1 (.bl (!c)) (.val (.bl (!c))) e1 (.bl (!c)) trivial h1⟩
    | _ => exact (show False from h1).elim
  | fr d => exact (show False from h1).elim
  | cell i => exact (show False from h1).elim
theorem ud_neg : UnD kt K (rU fun i => .int (-i)) (fun d Q => match d with | .int i => Q (.val (.int (-i))) | _ => False) := by
  intro S H v1 d1 Q Q' e h1 h o
  cases d1 with
  | int i => exact ⟨i, h1.int, o.val _ _ (.int _) h⟩
  | _ => exact (show False from h).elim
/-- the truth of any value -/
theorem st_tru (ha : SE X kt a da) (he : ∀ whole, isTrue a X.env whole = (do let v ← whole; standAt a.pos; holding [v] (truthy v)) := by intro _; rfl) : ST X kt a (dTru da) := by
  obtain ⟨ta, pa, la⟩ := ha.ex
  refine ⟨_, pt_truth pa he, fun S H σ E Q Q' I h k => la S H σ E _ _ I h fun S1 H1 E1 v1 r1 e1 q1 n1 h1 => ?_⟩
  obtain ⟨d, w, c, ht, h2⟩ := vw_ok e1.si q1 h1
  refine ⟨c, ?_, k S1 H1 E1 c e1 h2⟩
  cases d with
  | non => cases w.non; exact ht
  | bl b => cases w.bl; exact ht
  | int i => cases w.int; exact ht
  | str z => cases w.str; exact ht
  | lst xs =>
    obtain ⟨p, vs, rfl, hp, r⟩ := w.lst e1.si.ex
    exact .inl ⟨vs, .of hp, by rw [show c = !xs.isEmpty from ht]; cases r <;> rfl⟩
  | tup xs =>
    obtain ⟨p, vs, rfl, hp, r⟩ := w.tup e1.si.ex
    exact .inr (.inl ⟨vs, hp, by rw [show c = !xs.isEmpty from ht]; cases r <;> rfl⟩)
  | _ => exact (show False from ht).elim
end
end BD
set_option Elab.async false
set_option linter.all false
set_option maxRecDepth 100000
set_option maxHeartbeats 2000000
/-! BD: calls of built-ins by name; isinstance; methods of texts. -/
namespace BD
open PySem PySem.Spec PyProof.Rows L2
def dNilR : DR := fun E Q => Q [] E
def dConsR (da : DE) (dr : DR) : DR := fun E Q => da E fun r E1 => dr E1 fun rs E2 => Q (r :: rs) E2
def vws (E : List Cell) : List R → (List D → Prop) → Prop
  | [], k => k []
  | r :: rs, k => vw E r fun d => vws E rs fun ds => k (d :: ds)
def dCall (rd : List D → (R → Prop) → Prop) (dr : DR) : DE := fun E Q => dr E fun rs E1 => vws E1 rs fun ds => rd ds fun r => Q r E1
section
variable (kt : Bool) (K : PySem.W.Frag)
inductive VwL (S H : Hp) : List V → List D → Prop
  | nil : VwL S H [] []
  | cons {v : V} {vs : List V} {d : D} {ds : List D} : Vw kt K S H v d → VwL S H vs ds → VwL S H (v :: vs) (d :: ds)
def CallD (r : List V → Hp → VK → Prop) (rd : List D → (R → Prop) → Prop) : Prop := ∀ (S H : Hp) (vs : List V) (ds : List D) (Q : R → Prop) (Q' : VK), Same S H →
  VwL kt K S H vs ds → rd ds Q → Outs kt K S H Q Q' → r vs H Q'
end
structure CallB (X : Cx) (kt : Bool) (f : Value) (rd : List D → (R → Prop) → Prop) : Prop where
  ex : ∃ r, CallR X f r ∧ CallD kt X.K r rd
section
variable {X : Cx} {kt : Bool} {K : PySem.W.Frag} {a b e : Expr} {es : List Expr} {da db : DE} {dr : DR} {pos p apos : Pos} {x : Str} {S H : Hp} {σ : L2.St} {E E1 E2 : List Cell}
theorem RepRs.step {S1 H1 : Hp} (e : Ev kt K S H σ E S1 H1 E1) : ∀ {vs : List V} {rs : List R}, RepRs kt K S H σ E vs rs → RepRs kt K S1 H1 σ E1 vs rs
  | _, _, .nil => .nil
  | _, _, .cons h t => .cons (h.step e) (RepRs.step e t)
theorem News.back {H1 : Hp} (e : ∀ p, H1 p = none → H p = none) : ∀ {vs : List V} {rs : List R}, News H1 vs rs → News H vs rs
  | _, _, .nil => .nil
  | _, _, .cons h t => .cons (h.back e) (News.back e t)
theorem vws_ok (I : SI kt K S H σ E) : ∀ {vs : List V} {rs : List R} {k : List D → Prop}, RepRs kt K S H σ E vs rs → vws E rs k → ∃ ds, VwL kt K S H vs ds ∧ k ds
  | _, _, _, .nil, q => ⟨[], .nil, q⟩
  | _, _, _, .cons h t, q => by
    obtain ⟨d, w, q1⟩ := vw_ok I h q
    obtain ⟨ds, ws, q2⟩ := vws_ok I t q1
    exact ⟨d :: ds, .cons w ws, q2⟩
theorem sr_nil : SR X kt [] dNilR := ⟨_, pa_nil, fun S H σ E Q Q' I h k => k S H E [] [] (.refl I) .nil .nil h⟩
theorem sr_cons (ha : SE X kt e da) (hr : SR X kt es dr) (hs : starEach (e :: es) X.env = (false, eval e X.env) :: starEach es X.env := by rfl) : SR X kt (e :: es) (dConsR da dr) := by
  obtain ⟨t, p, l⟩ := ha.ex
  obtain ⟨tr, pr, lr⟩ := hr.ex
  exact ⟨_, pa_cons p pr hs, fun S H σ E Q Q' I h k => l S H σ E _ _ I h fun S1 H1 E1 v1 r1 e1 q1 n1 h1 => lr S1 H1 σ E1 _ _ e1.si h1 fun S2 H2 E2 vs rs e2 qs ns h2 =>
    k S2 H2 E2 (v1 :: vs) (r1 :: rs) (e1.trans e2) (.cons (q1.step e2) qs) (.cons n1 (ns.back fun p => e1.fr.back)) h2⟩
/-- an argument that must stay -/
theorem se_fz (ha : SE X kt e da) : SE X kt e (fun E Q => dFz da E fun d E1 => Q (.val d) E1) := by
  obtain ⟨t, p, l⟩ := (fz ha).ex
  exact ⟨t, p, fun S H σ E Q Q' I h k => l S H σ E _ _ I h fun S1 H1 E1 v1 x1 e1 r1 h1 => k S1 H1 E1 v1 (.val x1) e1 r1 trivial h1⟩
theorem call_lk {r : List V → Hp → VK → Prop} {rd : List D → (R → Prop) → Prop} {t : TA} (hd : CallD kt K r rd) (l : LkR kt K t dr) : LkE kt K (tCB r t) (dCall rd dr) :=
  fun S H σ E Q Q' I h k => l S H σ E _ _ I h fun S1 H1 E1 vs rs e1 qs ns h1 => by
    obtain ⟨ds, ws, h2⟩ := vws_ok e1.si qs h1
    exact hd S1 H1 vs ds _ _ e1.si.ex ws h2 (outs_of e1 k)
/-- f(e, ..), f a built-in function | type by its name -/
theorem se_callB {id : String} {rd : List D → (R → Prop) → Prop} (o : CallB X kt (.builtin id) rd) (hg : Gl X x) (hm : X.mg x = none) (hv : bootBuiltins x = some (.builtin id)) (ha : SR X kt (e :: es) dr) (hn : x ≠ "__name__" := by decide) (hdb : (x == ("__debug__" : Str)) = false := by decide)
    (he : starEach (e :: es) X.env = (false, eval e X.env) :: starEach es X.env := by rfl) (hpl : (backTo pos (starEach es X.env)).any (·.1) = false := by rfl) : SE X kt (.Call (.Name x p) (e :: es) [] pos) (dCall rd dr) := by
  obtain ⟨r, ho, hd⟩ := o.ex
  obtain ⟨t, q, l⟩ := ha.ex
  exact ⟨_, pe_callB ho hg hm hv q hn hdb he hpl, call_lk hd l⟩
theorem se_callTy {T : String} {rd : List D → (R → Prop) → Prop} (o : CallB X kt (.type T) rd) (hg : Gl X x) (hm : X.mg x = none) (hv : bootBuiltins x = some (.type T)) (ha : SR X kt (e :: es) dr) (hn : x ≠ "__name__" := by decide) (hdb : (x == ("__debug__" : Str)) = false := by decide)
    (he : starEach (e :: es) X.env = (false, eval e X.env) :: starEach es X.env := by rfl) (hpl : (backTo pos (starEach es X.env)).any (·.1) = false := by rfl) : SE X kt (.Call (.Name x p) (e :: es) [] pos) (dCall rd dr) := by
  obtain ⟨r, ho, hd⟩ := o.ex
  obtain ⟨t, q, l⟩ := ha.ex
  exact ⟨_, pe_callTy ho hg hm hv q hn hdb he hpl, call_lk hd l⟩
theorem VwL.one {vs : List V} {d : D} (h : VwL kt K S H vs [d]) : ∃ v, vs = [v] ∧ Vw kt K S H v d := by
  cases h with
  | cons a b => cases b; exact ⟨_, rfl, a⟩
theorem VwL.two {vs : List V} {d d2 : D} (h : VwL kt K S H vs [d, d2]) : ∃ v w, vs = [v, w] ∧ Vw kt K S H v d ∧ Vw kt K S H w d2 := by
  cases h with
  | cons a b => cases b with
    | cons c d => cases d; exact ⟨_, _, rfl, a, c⟩
/-- one argument -/
theorem cd_one {r : List V → Hp → VK → Prop} {g : D → (R → Prop) → Prop} (h : ∀ (S H : Hp) (v : V) (d : D) (Q : R → Prop) (Q' : VK), Same S H → Vw kt K S H v d → g d Q → Outs kt K S H Q Q' → r [v] H Q') :
    CallD kt K r (fun ds Q => match ds with | [d] => g d Q | _ => False) := by
  intro S H vs ds Q Q' e hw hq o
  match ds, hw, hq with
  | [d], hw, hq =>
    obtain ⟨v, rfl, w⟩ := hw.one
    exact h S H v d Q Q' e w hq o
  | [], _, hq => exact (show False from hq).elim
  | _ :: _ :: _, _, hq => exact (show False from hq).elim
theorem cd_two {r : List V → Hp → VK → Prop} {g : D → D → (R → Prop) → Prop} (h : ∀ (S H : Hp) (v w : V) (d d2 : D) (Q : R → Prop) (Q' : VK), Same S H → Vw kt K S H v d → Vw kt K S H w d2 → g d d2 Q → Outs kt K S H Q Q' → r [v, w] H Q') :
    CallD kt K r (fun ds Q => match ds with | [d, d2] => g d d2 Q | _ => False) := by
  intro S H vs ds Q Q' e hw hq o
  match ds, hw, hq with
  | [d, d2], hw, hq =>
    obtain ⟨v, w', rfl, w, w2⟩ := hw.two
    exact h S H v w' d d2 Q Q' e w w2 hq o
  | [], _, hq => exact (show False from hq).elim
  | [_], _, hq => exact (show False from hq).elim
  | _ :: _ :: _ :: _, _, hq => exact (show False from hq).elim
def d1 (g : D → (R → Prop) → Prop) (ds : List D) (Q : R → Prop) : Prop := match ds with | [d] => g d Q | _ => False
def d2 (g : D → D → (R → Prop) → Prop) (ds : List D) (Q : R → Prop) : Prop := match ds with | [d, e] => g d e Q | _ => False
def dLen (d : D) (Q : R → Prop) : Prop := match d with
  | .lst xs => Q (.val (.int xs.length))
  | .tup xs => Q (.val (.int xs.length))
  | .scr xs => Q (.val (.int xs.length))
  | .str z => z.length ≤ sizeLine ∧ Q (.val (.int z.length))
  | _ => False
theorem cb_len : CallB X kt (.builtin "len") (d1 dLen) := ⟨_, call_len, cd_one fun S H v d Q Q' e w h o => by
  cases d with
  | lst xs =>
    obtain ⟨p, vs, rfl, hp, r⟩ := w.lst e
    exact ⟨_, vs.length, rfl, .inl ⟨vs, .of hp, rfl⟩, o.val _ _ (.int _) (by rw [r.length]; exact h)⟩
  | tup xs =>
    obtain ⟨p, vs, rfl, hp, r⟩ := w.tup e
    exact ⟨_, vs.length, rfl, .inr ⟨vs, hp, rfl⟩, o.val _ _ (.int _) (by rw [r.length]; exact h)⟩
  | scr xs =>
    obtain ⟨p, rfl, hp⟩ := w.scr e
    exact ⟨_, _, rfl, .inl ⟨_, hp, rfl⟩, o.val _ _ (.int _) (by rw [List.length_map]; exact h)⟩
  | str z =>
    cases w.str
    exact ⟨_, z.length, rfl, ⟨h.1, rfl⟩, o.val _ _ (.int _) h.2⟩
  | _ => exact (show False from h).elim⟩
def dInt (d : D) (Q : R → Prop) : Prop := match d with
  | .int i => Q (.val (.int i))
  | .bl b => Q (.val (.int (if b then 1 else 0)))
  | _ => False
theorem cb_int : CallB X kt (.type "int") (d1 dInt) := ⟨_, call_int1, cd_one fun S H v d Q Q' e w h o => by
  cases d with
  | int i => cases w.int; exact .inl ⟨i, rfl, o.val _ _ (.int _) h⟩
  | bl i => cases w.bl; exact .inr ⟨i, rfl, o.val _ _ (.int _) h⟩
  | _ => exact (show False from h).elim⟩
def dAbs (d : D) (Q : R → Prop) : Prop := match d with
  | .int i => Q (.val (.int (if i < 0 then -i else i)))
  | _ => False
theorem cb_abs : CallB X kt (.builtin "abs") (d1 dAbs) := ⟨_, call_abs, cd_one fun S H v d Q Q' e w h o => by
  cases d with
  | int i => cases w.int; exact ⟨i, rfl, o.val _ _ (.int _) h⟩
  | _ => exact (show False from h).elim⟩
theorem cb_max2 (hc : X.calm = true) : CallB X kt (.builtin "max") (d2 (dI fun i j => .int (if j > i then j else i))) := ⟨_, call_max2 hc, cd_two fun S H v w d d' Q Q' e w1 w2 h o => by
  cases d with
  | int i => cases d' with
    | int j => cases w1.int; cases w2.int; exact ⟨i, j, rfl, o.val _ _ (.int _) h⟩
    | _ => exact (show False from h).elim
  | _ => exact (show False from h).elim⟩
theorem cb_min2 (hc : X.calm = true) : CallB X kt (.builtin "min") (d2 (dI fun i j => .int (if j < i then j else i))) := ⟨_, call_min2 hc, cd_two fun S H v w d d' Q Q' e w1 w2 h o => by
  cases d with
  | int i => cases d' with
    | int j => cases w1.int; cases w2.int; exact ⟨i, j, rfl, o.val _ _ (.int _) h⟩
    | _ => exact (show False from h).elim
  | _ => exact (show False from h).elim⟩
def dAll (d : D) (Q : R → Prop) : Prop := match d with
  | .lst xs => ∃ bs : List Bool, xs = bs.map D.bl ∧ Q (.val (.bl (bs.all id)))
  | _ => False
def dAny (d : D) (Q : R → Prop) : Prop := match d with
  | .lst xs => ∃ bs : List Bool, xs = bs.map D.bl ∧ Q (.val (.bl (bs.any id)))
  | _ => False
theorem cb_all (hc : X.calm = true) : CallB X kt (.builtin "all") (d1 dAll) := ⟨_, cr_all hc, cd_one fun S H v d Q Q' e w h o => by
  cases d with
  | lst xs =>
    obtain ⟨bs, rfl, q⟩ := h
    obtain ⟨p, vs, rfl, hp, r⟩ := w.lst e
    exact ⟨p, bs, rfl, by rw [← rpl_bls r]; exact .of hp, o.val _ _ (.bl _) q⟩
  | _ => exact (show False from h).elim⟩
theorem cb_any (hc : X.calm = true) : CallB X kt (.builtin "any") (d1 dAny) := ⟨_, cr_any hc, cd_one fun S H v d Q Q' e w h o => by
  cases d with
  | lst xs =>
    obtain ⟨bs, rfl, q⟩ := h
    obtain ⟨p, vs, rfl, hp, r⟩ := w.lst e
    exact ⟨p, bs, rfl, by rw [← rpl_bls r]; exact .of hp, o.val _ _ (.bl _) q⟩
  | _ => exact (show False from h).elim⟩
def dSum (d : D) (Q : R → Prop) : Prop := match d with
  | .lst xs => ∃ ns : List Int, xs = ns.map D.int ∧ Q (.val (.int ns.sum))
  | _ => False
theorem cb_sum (hc : X.calm = true) : CallB X kt (.builtin "sum") (d1 dSum) := ⟨_, cr_sum hc, cd_one fun S H v d Q Q' e w h o => by
  cases d with
  | lst xs =>
    obtain ⟨bs, rfl, q⟩ := h
    obtain ⟨p, vs, rfl, hp, r⟩ := w.lst e
    exact ⟨p, bs, rfl, by rw [← rpl_ints r]; exact .of hp, o.val _ _ (.int _) q⟩
  | _ => exact (show False from h).elim⟩
def dMinI (d : D) (Q : R → Prop) : Prop := match d with
  | .lst xs => ∃ ns : List Int, xs = ns.map D.int ∧ 0 < ns.length ∧ ∀ m, m ∈ ns → (∀ y, y ∈ ns → m ≤ y) → Q (.val (.int m))
  | _ => False
theorem cb_minI (hc : X.calm = true) : CallB X kt (.builtin "min") (d1 dMinI) := ⟨_, cr_min hc, cd_one fun S H v d Q Q' e w h o => by
  cases d with
  | lst xs =>
    obtain ⟨bs, rfl, hl, q⟩ := h
    obtain ⟨p, vs, rfl, hp, r⟩ := w.lst e
    exact ⟨p, bs, rfl, by rw [← rpl_ints r]; exact .of hp, hl, fun m h1 h2 => o.val _ _ (.int _) (q m h1 h2)⟩
  | _ => exact (show False from h).elim⟩
def dListOf (d : D) (Q : R → Prop) : Prop := match d with
  | .lst xs => Q (.fr (.lst xs))
  | .tup xs => Q (.fr (.lst xs))
  | _ => False
theorem cb_list : CallB X kt (.type "list") (d1 dListOf) := ⟨_, call_list_of, cd_one fun S H v d Q Q' e w h o => by
  cases d with
  | lst xs =>
    obtain ⟨p, vs, rfl, hp, r⟩ := w.lst e
    exact ⟨p, vs, rfl, .inl (.of hp), fun l hl => o.lst hl r h⟩
  | tup xs =>
    obtain ⟨p, vs, rfl, hp, r⟩ := w.tup e
    exact ⟨p, vs, rfl, .inr hp, fun l hl => o.lst hl r h⟩
  | _ => exact (show False from h).elim⟩
def dTupOf (d : D) (Q : R → Prop) : Prop := match d with
  | .lst xs => Q (.val (.tup xs))
  | .tup xs => Q (.val (.tup xs))
  | _ => False
theorem cb_tuple : CallB X kt (.type "tuple") (d1 dTupOf) := ⟨_, call_tuple_of, cd_one fun S H v d Q Q' e w h o => by
  cases d with
  | lst xs =>
    obtain ⟨p, vs, rfl, hp, r⟩ := w.lst e
    exact ⟨p, vs, rfl, .inl ⟨.of hp, fun l hl => o.tup l _ _ hl r h⟩⟩
  | tup xs =>
    have g := w.rpT
    obtain ⟨p, vs, rfl, hp, r⟩ := w.tup e
    exact ⟨p, vs, rfl, .inr ⟨hp, o.val _ _ g h⟩⟩
  | _ => exact (show False from h).elim⟩
/-! ### isinstance(e, T), T a built-in type -/
def tyOf : D → String
  | .non => "NoneType" | .bl _ => "bool" | .int _ => "int" | .str _ => "str" | .lst _ => "list" | .tup _ => "tuple" | .xt _ => "tuple" | .ks _ => "tuple" | .dk _ => "dict" | .dt _ => "dict" | .scr _ => "list"
/-- T is a supertype of t, of the few that are asked -/
def isaB (t T : String) : Bool := (t == T) || (t == "bool" && T == "int")
def dIsa (T : String) (da : DE) : DE := fun E Q => da E fun r E1 => vw E1 r fun d => Q (.val (.bl (isaB (tyOf d) T))) E1
/-- a locked dict with tuple keys is a dict, too -/
theorem call_isiD : CallR X (.builtin "isinstance") (fun xs H Q => ∃ (a : Addr) (o : Obj) (kvs : List (List Key × V)) (T : String) (b : Bool), xs = [.ref a, .ty T] ∧ H a = some (.frz o (.dT kvs)) ∧ PySem.W.kitOne X.K (.type "dict") (.type T) = some b ∧ Q (.bl b) H) := by
  intro pins s σ H xs us Q I r h
  obtain ⟨a, ob, kvs, T, b, rfl, ha, e, q⟩ := h
  obtain ⟨u1, u2, rfl, r1, r2⟩ := vals2 r
  cases (show u1 = Value.ref a from r1)
  cases (show u2 = Value.type T from r2)
  obtain ⟨_, _, _, xs, _, o, es, ep, h1, h2, _⟩ := (show ObjOk X.prog X.w H s.heap a (.frz ob (.dT kvs)) from I.hok a _ ha)
  exact PySem.W.kia_one PySem.W.kitx_dict I.kIn ⟨o, h1, h2.1⟩ e (fun z => nomatch z) fun tk => ⟨.bl b, H, I.tok tk, rfl, q⟩
theorem kit_at : ∀ d : D, ∀ T ∈ ["dict", "list", "tuple", "bool", "int", "str"], PySem.W.kitOne K (.type (tyOf d)) (.type T) = some (isaB (tyOf d) T) := by
  have g : ∀ t ∈ ["NoneType", "bool", "int", "str", "list", "tuple", "dict"], ∀ T ∈ ["dict", "list", "tuple", "bool", "int", "str"], kitB t T = some (isaB t T) := by decide +kernel
  intro d T hT
  exact kit_ty (g _ (by cases d <;> simp [tyOf]) T hT)
theorem tyx_rp {v : V} {d : D} (e : Same S H) (h : Rp kt K S v d) : TyX K H v (.type (tyOf d)) ∨ ∃ a o kvs, v = .ref a ∧ H a = some (.frz o (.dT kvs)) ∧ tyOf d = "dict" := by
  cases h with
  | non => exact .inl (.base .non)
  | bl b => exact .inl (.base (.bl b))
  | int i => exact .inl (.base (.int i))
  | str z => exact .inl (.base (.str z))
  | lst h r => exact .inl (.base (.lst (e _ _ h)))
  | tup h r =>
    rcases (h.mono e).sqt with (z | ⟨o, z⟩) | ⟨o, its, n, hk, hc, _⟩
    · exact .inl (.base (.tup z))
    · exact .inl (.fTuple z)
    · exact .inl (.kTuple hk hc)
  | xt h hd r => exact .inl (.fTuple (e _ _ h))
  | ks h r => exact .inl (.base (.tup (e _ _ h)))
  | dk h r =>
    rcases h with z | ⟨o, z⟩
    · exact .inl (.base (.dK (e _ _ z)))
    · exact .inl (.fDict (e _ _ z))
  | dt h r =>
    rcases h with z | ⟨o, z⟩
    · exact .inl (.base (.dT (e _ _ z)))
    · exact .inr ⟨_, o, _, rfl, e _ _ z, rfl⟩
  | scr h =>
    rcases (le_of e).sql _ _ h with (z | ⟨o, z⟩) | ⟨o, its, n, hk, hc, _⟩
    · exact .inl (.base (.lst z))
    · exact .inl (.base (.frz z))
    · exact .inl (.kList hk hc)
theorem tyx_vw {v : V} {d : D} (e : Same S H) (h : Vw kt K S H v d) : TyX K H v (.type (tyOf d)) ∨ ∃ a o kvs, v = .ref a ∧ H a = some (.frz o (.dT kvs)) ∧ tyOf d = "dict" := by
  rcases h with h | ⟨p, o, rfl, hr, ho⟩
  · exact tyx_rp e h
  · cases d with
    | lst ds => obtain ⟨vs, rfl, _⟩ := ho; exact .inl (.base (.lst hr.lst))
    | dk ds =>
      obtain ⟨vs, rfl, _⟩ := ho
      rcases hr.rd with z | ⟨o, z⟩
      · exact .inl (.base (.dK z))
      · exact .inl (.fDict z)
    | dt ds =>
      obtain ⟨vs, rfl, _⟩ := ho
      rcases hr.rd with z | ⟨o, z⟩
      · exact .inl (.base (.dT z))
      · exact .inr ⟨p, o, _, rfl, z, rfl⟩
    | _ => exact (show False from ho).elim
theorem se_isa {T : Str} {T' : String} {pT : Pos} (hT : T' ∈ ["dict", "list", "tuple", "bool", "int", "str"]) (hg : Gl X "isinstance") (hm : X.mg "isinstance" = none) (hgT : Gl X T) (hmT : X.mg T = none) (hvT : bootBuiltins T = some (.type T')) (ha : SE X kt a da)
    (hnT : T ≠ "__name__" := by decide) (hdT : (T == ("__debug__" : Str)) = false := by decide)
    (he : starEach [a, .Name T pT] X.env = (false, eval a X.env) :: starEach [.Name T pT] X.env := by rfl) (he2 : starEach [.Name T pT] X.env = (false, eval (.Name T pT) X.env) :: starEach [] X.env := by rfl) (hpl : (backTo pos (starEach [.Name T pT] X.env)).any (·.1) = false := by rfl) :
    SE X kt (.Call (.Name "isinstance" p) [a, .Name T pT] [] pos) (dIsa T' da) := by
  obtain ⟨ta, pa, la⟩ := ha.ex
  refine ⟨_, pe_callB (call_isi.or call_isiD) hg hm (by decide +kernel) (pa_cons pa (pa_cons (pe_bltn (v := .ty T') hgT hmT hvT rfl hnT hdT) pa_nil he2) he) (by decide) (by decide) he hpl, fun S H σ E Q Q' I h k => la S H σ E _ _ I h fun S1 H1 E1 v1 r1 e1 q1 n1 h1 => ?_⟩
  obtain ⟨d, w, h2⟩ := vw_ok e1.si q1 h1
  have g := kit_at (K := X.K) d T' hT
  rcases tyx_vw e1.si.ex w with z | ⟨p, o, kvs, rfl, z, hty⟩
  · exact .inl ⟨v1, .ty T', _, _, _, rfl, .ty T', z, g, (outs_of e1 k).val _ _ (.bl _) h2⟩
  · exact .inr ⟨p, o, kvs, T', _, rfl, z, by rw [← hty]; exact g, (outs_of e1 k).val _ _ (.bl _) h2⟩
end
end BD
set_option Elab.async false
set_option linter.all false
set_option maxRecDepth 100000
set_option maxHeartbeats 2000000
/-! BD: statements, targets, loops. -/
namespace BD
open PySem PySem.Spec PyProof.Rows L2

/-- a is the address of a container made here -/
def ownN (σ : L2.St) (E : List Cell) (a : Addr) : Prop := ∃ i d, nth E i = .own d ∧ σ[i]? = some (some (.ref a))
section
variable (kt : Bool) (K : PySem.W.Frag)
/-- a statement's step -/
structure Go (S H : Hp) (σ : L2.St) (E : List Cell) (S' H' : Hp) (σ' : L2.St) (E' : List Cell) : Prop where
  si : SI kt K S' H' σ' E'
  fr : Fr S H (ownA σ E) S' H' (ownA σ' E')
  bor : ∀ i d, nth E i = .bor d → σ'[i]? = σ[i]? ∧ ∃ d', nth E' i = .bor d'
  borb : ∀ i d, nth E' i = .bor d → ∃ d', nth E i = .bor d'
  ro : ∀ i d, nth E' i = .ro d → nth E i = .ro d ∧ σ'[i]? = σ[i]?
  len : E'.length = E.length
def RetR (H : Hp) (σ : L2.St) (E : List Cell) (S' H' : Hp) (v : V) : R → Prop
  | .val d => Rp kt K S' v d
  | .fr d => ∃ p o, v = .ref p ∧ S' p = none ∧ (ownN σ E p ∨ H p = none) ∧ H' p = some o ∧ Own kt K S' o d
  | .cell _ => False
end
structure DEnds where
  nx : List Cell → Prop
  rt : R → List Cell → Prop
  bk : List Cell → Prop := fun _ => False
  ct : List Cell → Prop := fun _ => False
abbrev DS := DEnds → List Cell → Prop
section
variable (kt : Bool) (K : PySem.W.Frag)
structure EndsOk (S H : Hp) (σ : L2.St) (E : List Cell) (DD : DEnds) (D : Ends) : Prop where
  nx : ∀ S' H' σ' E', Go kt K S H σ E S' H' σ' E' → DD.nx E' → D.nx σ' H'
  bk : ∀ S' H' σ' E', Go kt K S H σ E S' H' σ' E' → DD.bk E' → D.bk σ' H'
  ct : ∀ S' H' σ' E', Go kt K S H σ E S' H' σ' E' → DD.ct E' → D.ct σ' H'
  rt : ∀ S' H' σ' E' v r, Go kt K S H σ E S' H' σ' E' → RetR kt K H σ E S' H' v r → DD.rt r E' → D.rt v H'
def LkS (t : TS) (d : DS) : Prop := ∀ (S H : Hp) (σ : L2.St) (E : List Cell) (DD : DEnds) (D : Ends), SI kt K S H σ E → d DD E → EndsOk kt K S H σ E DD D → t D σ H
end
structure SS (X : Cx) (kt : Bool) (st : Stmt) (d : DS) : Prop where
  ex : ∃ t, PS X st t ∧ LkS kt X.K t d
structure SSs (X : Cx) (kt : Bool) (st : List Stmt) (d : DS) : Prop where
  ex : ∃ t, PSs X st t ∧ LkS kt X.K t d

section
variable {kt : Bool} {K : PySem.W.Frag} {S H S' H' S1 H1 S2 H2 : Hp} {σ σ1 σ2 : L2.St} {E E' E1 E2 : List Cell} {v : V} {r : R}
theorem Go.refl (I : SI kt K S H σ E) : Go kt K S H σ E S H σ E := ⟨I, .refl, fun i d h => ⟨rfl, d, h⟩, fun i d h => ⟨d, h⟩, fun i d h => ⟨h, rfl⟩, rfl⟩
theorem Go.trans (a : Go kt K S H σ E S1 H1 σ1 E1) (b : Go kt K S1 H1 σ1 E1 S2 H2 σ2 E2) : Go kt K S H σ E S2 H2 σ2 E2 where
  si := b.si
  fr := a.fr.trans b.fr
  bor := fun i d h => by
    obtain ⟨h1, d1, h2⟩ := a.bor i d h
    obtain ⟨h3, d2, h4⟩ := b.bor i d1 h2
    exact ⟨h3.trans h1, d2, h4⟩
  borb := fun i d h => by
    obtain ⟨d1, h1⟩ := b.borb i d h
    exact a.borb i d1 h1
  ro := fun i d h => by
    obtain ⟨h1, h2⟩ := b.ro i d h
    obtain ⟨h3, h4⟩ := a.ro i d h1
    exact ⟨h3, h2.trans h4⟩
  len := b.len.trans a.len
theorem CellStep.bor_of {a : Cell} {d : D} (h : CellStep a (.bor d)) : ∃ d', a = .bor d' := by
  cases a with
  | bor d' => exact ⟨d', rfl⟩
  | un => cases (show Cell.bor d = .un from h)
  | val x => cases (show Cell.bor d = .val x from h)
  | ro x => cases (show Cell.bor d = .ro x from h)
  | own x => rcases (show (∃ d', Cell.bor d = .own d') ∨ ∃ d', Cell.bor d = .val d' from h) with ⟨_, z⟩ | ⟨_, z⟩ <;> cases z
theorem CellStep.ro_of {a : Cell} {d : D} (h : CellStep a (.ro d)) : a = .ro d := by
  cases a with
  | ro x => cases (show Cell.ro d = .ro x from h); rfl
  | bor x => obtain ⟨_, z⟩ := (show ∃ d', Cell.ro d = .bor d' from h); cases z
  | un => cases (show Cell.ro d = .un from h)
  | val x => cases (show Cell.ro d = .val x from h)
  | own x => rcases (show (∃ d', Cell.ro d = .own d') ∨ ∃ d', Cell.ro d = .val d' from h) with ⟨_, z⟩ | ⟨_, z⟩ <;> cases z
theorem Go.cells {S0 H0 : Hp} {σ0 : L2.St} {E0 : List Cell} (g : Go kt K S0 H0 σ0 E0 S H σ E) (I : SI kt K S1 H1 σ E1) (F : Fr S0 H0 (ownA σ0 E0) S1 H1 (ownA σ E1)) (c : ∀ i, CellStep (nth E i) (nth E1 i)) : Go kt K S0 H0 σ0 E0 S1 H1 σ E1 where
  si := I
  fr := F
  bor := fun i d h => by
    obtain ⟨h1, d', h2⟩ := g.bor i d h
    have := c i
    rw [h2] at this
    exact ⟨h1, this⟩
  borb := fun i d h => by
    have := c i
    rw [h] at this
    obtain ⟨d', h2⟩ := this.bor_of
    exact g.borb i d' h2
  ro := fun i d h => by
    have := c i
    rw [h] at this
    exact g.ro i d this.ro_of
  len := by rw [← I.len, g.si.len]; exact g.len
theorem Ev.go (I : SI kt K S H σ E) (e : Ev kt K S H σ E S1 H1 E1) : Go kt K S H σ E S1 H1 σ E1 := (Go.refl I).cells e.si e.fr e.cells
theorem ownN.ownA {a : Addr} (h : ownN σ E a) : ownA σ E a := let ⟨i, d, h1, h2⟩ := h; ⟨i, d, .inl h1, h2⟩
/-- what was made here lies at an address that was ours, or is new -/
theorem Go.ownN (I : SI kt K S H σ E) (g : Go kt K S H σ E S1 H1 σ1 E1) {a : Addr} (h : ownN σ1 E1 a) : ownN σ E a ∨ H a = none := by
  rcases g.fr.own a h.ownA with ⟨k, d, hk, hσ⟩ | z
  · rcases hk with hk | hk
    · exact .inl ⟨k, d, hk, hσ⟩
    · exfalso
      obtain ⟨j, e, hj, hσj⟩ := h
      obtain ⟨h1, d', h2⟩ := g.bor k d hk
      have := g.si.dis j k e d' a (.inl hj) (.inr h2) hσj (h1.trans hσ)
      subst this
      rw [hj] at h2; cases h2
  · exact .inr z
theorem RetR.back (I : SI kt K S H σ E) (g : Go kt K S H σ E S1 H1 σ1 E1) (h : RetR kt K H1 σ1 E1 S2 H2 v r) : RetR kt K H σ E S2 H2 v r := by
  cases r with
  | val d => exact h
  | cell i => exact h
  | fr d =>
    obtain ⟨p, o, h1, h2, h3, h4, h5⟩ := h
    refine ⟨p, o, h1, h2, ?_, h4, h5⟩
    rcases h3 with z | z
    · exact g.ownN I z
    · exact .inr (g.fr.back z)
theorem EndsOk.back {DD : DEnds} {D : Ends} (I : SI kt K S H σ E) (g : Go kt K S H σ E S1 H1 σ1 E1) (e : EndsOk kt K S H σ E DD D) : EndsOk kt K S1 H1 σ1 E1 DD D :=
  ⟨fun _ _ _ _ a h => e.nx _ _ _ _ (g.trans a) h, fun _ _ _ _ a h => e.bk _ _ _ _ (g.trans a) h, fun _ _ _ _ a h => e.ct _ _ _ _ (g.trans a) h, fun _ _ _ _ v r a q h => e.rt _ _ _ _ v r (g.trans a) (q.back I g) h⟩
end

/-! ### targets -/
abbrev DG := R → List Cell → (List Cell → Prop) → Prop
def LkG (kt : Bool) (K : PySem.W.Frag) (g : TG) (dg : DG) : Prop := ∀ (S0 H0 : Hp) (σ0 : L2.St) (E0 : List Cell) (S H : Hp) (σ : L2.St) (E : List Cell) (v : V) (r : R) (Q : List Cell → Prop) (Q' : L2.St → Hp → Prop),
  SI kt K S0 H0 σ0 E0 → Go kt K S0 H0 σ0 E0 S H σ E → RepR kt K S H σ E v r → New H0 v r → dg r E Q → (∀ S' H' σ' E', Go kt K S0 H0 σ0 E0 S' H' σ' E' → Same S S' → Q E' → Q' σ' H') → g v σ H Q'
structure SG (X : Cx) (kt : Bool) (tg : Expr) (d : DG) : Prop where
  ex : ∃ g, PG X tg g ∧ LkG kt X.K g d
def canSet : Cell → Prop
  | .bor _ => False
  | _ => True
/-- x = data that stays -/
def gV (i : Nat) : DG := fun r E Q => frz E r fun d E1 => canSet (nth E1 i) ∧ Q (put E1 i (.val d))
/-- x = a new container, ours from now on -/
def gO (i : Nat) : DG := fun r E Q => match r with
  | .fr d => canSet (nth E i) ∧ Q (put E i (.own d))
  | _ => False
section
variable {X : Cx} {kt : Bool} {K : PySem.W.Frag} {S H S' H' S1 H1 S2 H2 S0 H0 : Hp} {σ σ1 σ2 σ0 : L2.St} {E E' E1 E2 E0 : List Cell} {v : V} {r : R}
theorem get_set {α : Type} {l : List α} {i j : Nat} {a : α} : (l.set i a)[j]? = if j = i ∧ i < l.length then some a else l[j]? := by
  by_cases h : j = i
  · subst h
    by_cases hl : j < l.length
    · rw [if_pos ⟨rfl, hl⟩, List.getElem?_set_self hl]
    · rw [if_neg (fun z => hl z.2), List.getElem?_eq_none (by rw [List.length_set]; omega), List.getElem?_eq_none (by omega)]
  · rw [if_neg (fun z => h z.1), List.getElem?_set_ne (Ne.symm h)]
theorem nth_put2 {E : List Cell} {i j : Nat} {c : Cell} : nth (put E i c) j = if j = i ∧ i < E.length then c else nth E j := by
  by_cases h : j = i
  · subst h
    by_cases hl : j < E.length
    · rw [if_pos ⟨rfl, hl⟩, nth_put_self hl]
    · rw [if_neg (fun z => hl z.2), nth_out (by rw [put_len]; omega), nth_out (by omega)]
  · rw [if_neg (fun z => h z.1), nth_put_ne h]
/-- a slot that is not lent gets a new value -/
theorem Go.set {i : Nat} {w : V} {c : Cell} (I0 : SI kt K S0 H0 σ0 E0) (g : Go kt K S0 H0 σ0 E0 S H σ E) (hc : canSet (nth E i))
    (hv : ∀ d, c = .val d → Rp kt K S w d) (hro : ∀ d, c ≠ .ro d) (hb : ∀ d, c ≠ .bor d)
    (ho : ∀ d, c = .own d → ∃ p o, w = .ref p ∧ S p = none ∧ H p = some o ∧ Own kt K S o d ∧ ¬ ownA σ E p ∧ H0 p = none) : Go kt K S0 H0 σ0 E0 S H (σ.set i (some w)) (put E i c) := by
  have I := g.si
  have hlen : σ.length = E.length := I.len
  have old : ∀ a, ownA (σ.set i (some w)) (put E i c) a → ownA σ E a ∨ (w = .ref a ∧ ∃ d, c = .own d) := fun a ⟨j, d, hj, hσ⟩ => by
    rw [nth_put2] at hj
    rw [get_set, hlen] at hσ
    by_cases h : j = i ∧ i < E.length
    · rw [if_pos h] at hj hσ
      right
      have e : w = .ref a := Option.some.inj (Option.some.inj hσ)
      rcases hj with z | z
      · exact ⟨e, d, z⟩
      · exact absurd z (hb d)
    · rw [if_neg h] at hj hσ
      exact .inl ⟨j, d, hj, hσ⟩
  refine ⟨⟨I.ex, by rw [List.length_set, put_len]; exact hlen, fun j d hj => ?_, fun j d hj => ?_, fun j d hj => ?_, fun j k d e p hj hk hσj hσk => ?_⟩, ⟨g.fr.ex, g.fr.keep, g.fr.free, fun a ha => ?_, g.fr.alive⟩, fun j d hj => ?_, fun j d hj => ?_, fun j d hj => ?_, by rw [put_len]; exact g.len⟩
  · rw [nth_put2] at hj
    rw [get_set, hlen]
    by_cases h : j = i ∧ i < E.length
    · rw [if_pos h] at hj ⊢
      exact ⟨w, rfl, hv d hj⟩
    · rw [if_neg h] at hj ⊢
      exact I.val j d hj
  · rw [nth_put2] at hj
    rw [get_set, hlen]
    by_cases h : j = i ∧ i < E.length
    · rw [if_pos h] at hj
      exact absurd hj (hro d)
    · rw [if_neg h] at hj ⊢
      obtain ⟨u, h1, h2⟩ := I.ro j d hj
      obtain ⟨hj0, hσ0⟩ := g.ro j d hj
      obtain ⟨u0, g1, g2⟩ := I0.ro j d hj0
      rw [hσ0, g1] at h1; cases h1
      refine ⟨u, by rw [hσ0, g1], ?_⟩
      rcases h2 with h2 | ⟨p, o, rfl, h3, h4, h5⟩
      · exact .inl h2
      · rcases g2 with g2 | ⟨p', o', e1, g3, g4, g5⟩
        · exact .inl (g2.mono (le_of g.fr.ex))
        · cases e1
          refine .inr ⟨p, o, rfl, h3, h4, fun z => ?_⟩
          rcases old p z with q | ⟨q, d', hd⟩
          · exact h5 q
          · obtain ⟨p', o', e1, e2, e3, e4, e5, e6⟩ := ho d' hd
            rw [q] at e1; cases e1
            rcases g3 with g3 | ⟨⟨_, g3⟩, _⟩ <;> (rw [e6] at g3; cases g3)
  · rw [nth_put2] at hj
    rw [get_set, hlen]
    by_cases h : j = i ∧ i < E.length
    · rw [if_pos h] at hj ⊢
      rcases hj with hj | hj
      · obtain ⟨p, o, e1, e2, e3, e4, e5, e6⟩ := ho d hj
        exact ⟨p, o, by rw [e1], e2, e3, e4⟩
      · exact absurd hj (hb d)
    · rw [if_neg h] at hj ⊢
      exact I.own j d hj
  · rw [nth_put2] at hj hk
    rw [get_set, hlen] at hσj hσk
    by_cases h1 : j = i ∧ i < E.length
    · by_cases h2 : k = i ∧ i < E.length
      · exact h1.1.trans h2.1.symm
      · rw [if_pos h1] at hj hσj
        rw [if_neg h2] at hk hσk
        exfalso
        rcases hj with z | z
        · obtain ⟨p', o, e1, e2, e3, e4, e5, e6⟩ := ho d z
          have : w = .ref p := Option.some.inj (Option.some.inj hσj)
          rw [this] at e1; cases e1
          exact e5 ⟨k, e, hk, hσk⟩
        · exact hb d z
    · by_cases h2 : k = i ∧ i < E.length
      · rw [if_neg h1] at hj hσj
        rw [if_pos h2] at hk hσk
        exfalso
        rcases hk with z | z
        · obtain ⟨p', o, e1, e2, e3, e4, e5, e6⟩ := ho e z
          have : w = .ref p := Option.some.inj (Option.some.inj hσk)
          rw [this] at e1; cases e1
          exact e5 ⟨j, d, hj, hσj⟩
        · exact hb e z
      · rw [if_neg h1] at hj hσj
        rw [if_neg h2] at hk hσk
        exact I.dis j k d e p hj hk hσj hσk
  · rcases old a ha with q | ⟨q, d', hd⟩
    · exact g.fr.own a q
    · obtain ⟨p', o, e1, e2, e3, e4, e5, e6⟩ := ho d' hd
      rw [q] at e1; cases e1
      exact .inr e6
  · obtain ⟨h1, d', h2⟩ := g.bor j d hj
    have hji : ¬ (j = i ∧ i < E.length) := fun z => by
      rw [z.1] at h2
      rw [h2] at hc
      exact hc
    exact ⟨by rw [get_set, hlen, if_neg hji]; exact h1, d', by rw [nth_put2, if_neg hji]; exact h2⟩
  · rw [nth_put2] at hj
    by_cases h : j = i ∧ i < E.length
    · rw [if_pos h] at hj; exact absurd hj (hb d)
    · rw [if_neg h] at hj; exact g.borb j d hj
  · rw [nth_put2] at hj
    rw [get_set, hlen]
    by_cases h : j = i ∧ i < E.length
    · rw [if_pos h] at hj; exact absurd hj (hro d)
    · rw [if_neg h] at hj ⊢; exact g.ro j d hj
theorem gV_lk {i : Nat} : LkG kt K (gName i) (gV i) := fun S0 H0 σ0 E0 S H σ E v r Q Q' I0 g h n q k => by
  obtain ⟨S1, E1, d, I1, F1, c1, le, r1, q1⟩ := frz_ok g.fr g.si h n q
  have g1 : Go kt K S0 H0 σ0 E0 S1 H σ E1 := g.cells I1 F1 c1
  exact k _ _ _ _ (g1.set (w := v) (c := .val d) I0 q1.1 (fun d' hd => by cases hd; exact r1) (fun _ z => nomatch z) (fun _ z => nomatch z) (fun _ z => nomatch z)) le q1.2
theorem gO_lk {i : Nat} : LkG kt K (gName i) (gO i) := fun S0 H0 σ0 E0 S H σ E v r Q Q' I0 g h n q k => by
  cases r with
  | fr d =>
    obtain ⟨p, o, rfl, h2, h3, h4, h5⟩ := h
    exact k _ _ _ _ (g.set (w := .ref p) (c := .own d) I0 q.1 (fun _ z => nomatch z) (fun _ z => nomatch z) (fun _ z => nomatch z) (fun d' hd => by cases hd; exact ⟨p, o, rfl, h2, h4, h5, h3, n p rfl⟩)) (.refl S) q.2
  | val d => exact (show False from q).elim
  | cell j => exact (show False from q).elim
variable {x : Str} {pos : Pos} {e : Expr} {es : List Expr} {da : DE}
theorem sg_v (i : Nat) (hN : X.N.Nodup) (hi : X.N[i]? = some x := by rfl) (hx : Loc X.env.scope x := by first | exact Or.inl rfl | exact Or.inr rfl) (hf : X.fn x = true ∨ X.env.scope.names.lookup x = some .local := by first | exact .inl rfl | exact .inr rfl) : SG X kt (.Name x pos) (gV i) := ⟨_, pg_name hN hi hx hf, gV_lk⟩
theorem sg_o (i : Nat) (hN : X.N.Nodup) (hi : X.N[i]? = some x := by rfl) (hx : Loc X.env.scope x := by first | exact Or.inl rfl | exact Or.inr rfl) (hf : X.fn x = true ∨ X.env.scope.names.lookup x = some .local := by first | exact .inl rfl | exact .inr rfl) : SG X kt (.Name x pos) (gO i) := ⟨_, pg_name hN hi hx hf, gO_lk⟩
/-! ### (a, b) = .. -/
abbrev DGs := List D → List Cell → (List Cell → Prop) → Prop
def LkGs (kt : Bool) (K : PySem.W.Frag) (g : TGs) (dg : DGs) : Prop := ∀ (S0 H0 : Hp) (σ0 : L2.St) (E0 : List Cell) (S H : Hp) (σ : L2.St) (E : List Cell) (vs : List V) (xs : List D) (Q : List Cell → Prop) (Q' : L2.St → Hp → Prop),
  SI kt K S0 H0 σ0 E0 → Go kt K S0 H0 σ0 E0 S H σ E → RpL kt K S vs xs → dg xs E Q → (∀ S' H' σ' E', Go kt K S0 H0 σ0 E0 S' H' σ' E' → Same S S' → Q E' → Q' σ' H') → g vs σ H Q'
structure SGs (X : Cx) (kt : Bool) (es : List Expr) (d : DGs) : Prop where
  ex : ∃ g, PGs X es g ∧ LkGs kt X.K g d
def gNilD : DGs := fun xs E Q => match xs with | [] => Q E | _ => False
def gConsD (g : DG) (gs : DGs) : DGs := fun xs E Q => match xs with | x :: r => g (.val x) E fun E1 => gs r E1 Q | [] => False
def gTupD (n : Nat) (gs : DGs) : DG := fun r E Q => vw E r fun d => match d with | .tup xs => xs.length = n ∧ gs xs E Q | _ => False
theorem sgs_nil : SGs X kt [] gNilD := ⟨_, pgs_nil, fun S0 H0 σ0 E0 S H σ E vs xs Q Q' I0 g r q k => by
  cases r with
  | nil => exact ⟨rfl, k _ _ _ _ g (.refl S) q⟩
  | cons => exact (show False from q).elim⟩
theorem sgs_cons {g : DG} {gs : DGs} (h : SG X kt e g) (hs : SGs X kt es gs) (hs2 : (assignEach (e :: es) X.env).map (·.2) = assign e X.env :: (assignEach es X.env).map (·.2) := by rfl) : SGs X kt (e :: es) (gConsD g gs) := by
  obtain ⟨t, p, l⟩ := h.ex
  obtain ⟨ts, ps, ls⟩ := hs.ex
  refine ⟨_, pgs_cons p ps hs2, fun S0 H0 σ0 E0 S H σ E vs xs Q Q' I0 g r q k => ?_⟩
  cases r with
  | nil => exact (show False from q).elim
  | cons r1 rr =>
    rename_i v vs d ds
    exact ⟨v, vs, rfl, l S0 H0 σ0 E0 S H σ E v (.val d) _ _ I0 g r1 trivial q fun S1 H1 σ1 E1 g1 le q1 => ls S0 H0 σ0 E0 S1 H1 σ1 E1 vs ds Q Q' I0 g1 (rr.mono (le_of le)) q1 fun S2 H2 σ2 E2 g2 le2 => k S2 H2 σ2 E2 g2 (le.trans le2)⟩
theorem sg_tup {k : Nat} {n : Nat} {gs : DGs} (hc : X.calm = true) (h : SGs X kt es gs) (hn : (assignEach es X.env).length = n := by rfl) (hst : (assignEach es X.env).findIdx? (·.1) = none := by rfl) : SG X kt (.Tuple es k pos) (gTupD n gs) := by
  obtain ⟨ts, ps, ls⟩ := h.ex
  refine ⟨_, pg_tup hc ps hn hst, fun S0 H0 σ0 E0 S H σ E v r Q Q' I0 g q n h k => ?_⟩
  obtain ⟨d, w, h1⟩ := vw_ok g.si q h
  cases d with
  | tup xs =>
    obtain ⟨p, vs, rfl, hp, r1⟩ := w.tup g.si.ex
    exact ⟨p, vs, rfl, hp, r1.length.trans h1.1, ls S0 H0 σ0 E0 S H σ E vs xs Q Q' I0 g r1 h1.2 k⟩
  | _ => exact (show False from h1).elim
/-! ### small statements, blocks -/
variable {st : Stmt} {sts : List Stmt} {ds du : DS} {tx : DT} {g : DG}
def sNext : DS := fun DD E => DD.nx E
def sSeq (d u : DS) : DS := fun DD E => d { DD with nx := u DD } E
def sExpr (da : DE) : DS := fun DD E => da E fun _ E1 => DD.nx E1
def rtn (r : R) (E : List Cell) (k : R → List Cell → Prop) : Prop := match r with
  | .val d => k (.val d) E
  | .fr d => k (.fr d) E
  | .cell i => match nth E i with
    | .val d => k (.val d) E
    | .own d => k (.fr d) E
    | _ => False
def sRet (da : DE) : DS := fun DD E => da E fun r E1 => rtn r E1 DD.rt
def sRetN : DS := fun DD E => DD.rt (.val .non) E
def sIf (t : DT) (d u : DS) : DS := fun DD E => t E fun b E1 => if b = true then d DD E1 else u DD E1
def sAsg (da : DE) (g : DG) : DS := fun DD E => da E fun r E1 => g r E1 DD.nx
theorem sss_nil : SSs X kt [] sNext := ⟨_, pss_nil, fun S H σ E DD D I h e => e.nx S H σ E (.refl I) h⟩
theorem sss_cons (h : SS X kt st ds) (hs : SSs X kt sts du) : SSs X kt (st :: sts) (sSeq ds du) := by
  obtain ⟨t, p, l⟩ := h.ex
  obtain ⟨u, q, m⟩ := hs.ex
  exact ⟨_, pss_cons p q, fun S H σ E DD D I h e => l S H σ E { DD with nx := du DD } { D with nx := u D } I h ⟨fun S1 H1 σ1 E1 g1 h1 => m S1 H1 σ1 E1 DD D g1.si h1 (e.back I g1), e.bk, e.ct, e.rt⟩⟩
theorem sss_one (h : SS X kt st ds) : SSs X kt [st] ds := by
  obtain ⟨t, p, l⟩ := h.ex
  exact ⟨t, pss_one p, l⟩
theorem ss_pass : SS X kt (.Pass pos) sNext := ⟨_, ps_pass, fun S H σ E DD D I h e => e.nx S H σ E (.refl I) h⟩
theorem ss_break : SS X kt (.Break pos) (fun DD E => DD.bk E) := ⟨_, ps_break, fun S H σ E DD D I h e => e.bk S H σ E (.refl I) h⟩
theorem ss_cont : SS X kt (.Continue pos) (fun DD E => DD.ct E) := ⟨_, ps_continue, fun S H σ E DD D I h e => e.ct S H σ E (.refl I) h⟩
theorem ss_expr (ha : SE X kt e da) (hs : swapsWith e none pos.line X.env = pure false := by rfl) : SS X kt (.Expr e pos) (sExpr da) := by
  obtain ⟨t, p, l⟩ := ha.ex
  exact ⟨_, ps_expr p hs, fun S H σ E DD D I h e => l S H σ E _ _ I h fun S1 H1 E1 v r e1 q n h1 => e.nx S1 H1 σ E1 (e1.go I) h1⟩
theorem ss_ret (ha : SE X kt e da) : SS X kt (.Return (some e) pos) (sRet da) := by
  obtain ⟨t, p, l⟩ := ha.ex
  refine ⟨_, ps_ret p, fun S H σ E DD D I h e => l S H σ E _ _ I h fun S1 H1 E1 v r e1 q n h1 => ?_⟩
  cases r with
  | val d => exact e.rt S1 H1 σ E1 v (.val d) (e1.go I) q h1
  | fr d =>
    obtain ⟨p, o, h2, h3, h4, h5, h6⟩ := q
    exact e.rt S1 H1 σ E1 v (.fr d) (e1.go I) ⟨p, o, h2, h3, .inr (n p h2), h5, h6⟩ h1
  | cell i =>
    obtain ⟨h2, h3⟩ := q
    have h1' : (match nth E1 i with | .val d => DD.rt (.val d) E1 | .own d => DD.rt (.fr d) E1 | _ => False) := h1
    cases z : nth E1 i with
    | val d =>
      rw [z] at h1'
      obtain ⟨w, g1, g2⟩ := e1.si.val i d z
      rw [h2] at g1; cases g1
      exact e.rt S1 H1 σ E1 v (.val d) (e1.go I) g2 h1'
    | own d =>
      rw [z] at h1'
      obtain ⟨p, o, g1, g2, g3, g4⟩ := e1.si.own i d (.inl z)
      have g1' := g1
      rw [h2] at g1; cases g1
      exact e.rt S1 H1 σ E1 _ (.fr d) (e1.go I) ⟨p, o, rfl, g2, (e1.go I).ownN I ⟨i, d, z, g1'⟩, g3, g4⟩ h1'
    | un => rw [z] at h1'; exact h1'.elim
    | ro d => rw [z] at h1'; exact h1'.elim
    | bor d => rw [z] at h1'; exact h1'.elim
theorem ss_retN : SS X kt (.Return none pos) sRetN := ⟨_, ps_retN, fun S H σ E DD D I h e => e.rt S H σ E .non (.val .non) (.refl I) .non h⟩
theorem ss_if {c : Expr} {as bs : List Stmt} (hc : ST X kt c tx) (ha : SSs X kt as ds) (hb : SSs X kt bs du) : SS X kt (.If c as bs pos) (sIf tx ds du) := by
  obtain ⟨t, p, l⟩ := hc.ex
  obtain ⟨ta, pa, la⟩ := ha.ex
  obtain ⟨tb, pb, lb⟩ := hb.ex
  refine ⟨_, ps_if p pa pb, fun S H σ E DD D I h e => l S H σ E _ _ I h fun S1 H1 E1 b e1 h1 => ?_⟩
  cases b with
  | true => rw [if_pos rfl] at h1 ⊢; exact la S1 H1 σ E1 DD D e1.si h1 (e.back I (e1.go I))
  | false => rw [if_neg Bool.false_ne_true] at h1 ⊢; exact lb S1 H1 σ E1 DD D e1.si h1 (e.back I (e1.go I))
theorem ss_asg {tg : Expr} (ha : SE X kt e da) (hg : SG X kt tg g) (hs : swapsWithSole [tg] e pos.line X.env = pure false := by rfl) (hw : swappedStores [tg] e X.env = pure none := by rfl) (h1 : (assignEach [tg] X.env).map (·.2) = [assign tg X.env] := by rfl) : SS X kt (.Assign [tg] e pos) (sAsg da g) := by
  obtain ⟨t, p, l⟩ := ha.ex
  obtain ⟨u, q, m⟩ := hg.ex
  exact ⟨_, ps_asg p q hs hw h1, fun S H σ E DD D I h e => l S H σ E _ _ I h fun S1 H1 E1 v r e1 q n h1 => m S H σ E S1 H1 σ E1 v r _ _ I (e1.go I) q n h1 fun S2 H2 σ2 E2 g2 _ h2 => e.nx S2 H2 σ2 E2 g2 h2⟩
end
end BD
set_option Elab.async false
set_option linter.all false
set_option maxRecDepth 100000
set_option maxHeartbeats 2000000
/-! BD: what changes containers; while; for. -/
namespace BD
open PySem PySem.Spec PyProof.Rows L2

section
variable {kt : Bool} {K : PySem.W.Frag} {S H S' H' S1 H1 S2 H2 S0 H0 : Hp} {σ σ1 σ2 σ0 : L2.St} {E E' E1 E2 E0 : List Cell} {v : V} {r : R}
def sameKind : Cell → D → Cell → Prop
  | .own _, d, c => c = .own d
  | .bor _, d, c => c = .bor d
  | _, _, _ => False
theorem sameKind.eq {a : Cell} {d : D} {c : Cell} (h : sameKind a d c) : ((∃ x, a = .own x) ∧ c = .own d) ∨ ((∃ x, a = .bor x) ∧ c = .bor d) := by
  cases a with
  | own x => exact .inl ⟨⟨x, rfl⟩, h⟩
  | bor x => exact .inr ⟨⟨x, rfl⟩, h⟩
  | _ => exact (show False from h).elim
theorem ownA_same {i : Nat} {d : D} {c : Cell} (h : sameKind (nth E i) d c) {a : Addr} : ownA σ (put E i c) a → ownA σ E a := fun ⟨j, e, hj, hσ⟩ => by
  have hi : i < E.length := nth_in fun z => by rw [z] at h; exact h
  by_cases hji : j = i
  · subst hji
    rcases h.eq with ⟨⟨x, hx⟩, _⟩ | ⟨⟨x, hx⟩, _⟩
    · exact ⟨j, x, .inl hx, hσ⟩
    · exact ⟨j, x, .inr hx, hσ⟩
  · rw [nth_put_ne hji] at hj
    exact ⟨j, e, hj, hσ⟩
/-- a slot's own container is changed -/
theorem SI.setCell {i : Nat} {d : D} {c : Cell} {p : Addr} {o : HO} (I : SI kt K S H σ E) (h : sameKind (nth E i) d c) (hσ : σ[i]? = some (some (.ref p))) (ho : Own kt K S o d) : SI kt K S (upd H p o) σ (put E i c) := by
  have hi : i < E.length := nth_in fun z => by rw [z] at h; exact h
  obtain ⟨x, hx⟩ : ∃ x, nth E i = .own x ∨ nth E i = .bor x := by
    rcases h.eq with ⟨⟨x, hx⟩, _⟩ | ⟨⟨x, hx⟩, _⟩
    · exact ⟨x, .inl hx⟩
    · exact ⟨x, .inr hx⟩
  obtain ⟨p', o', g1, g2, g3, g4⟩ := I.own i x hx
  rw [hσ] at g1; cases g1
  have hA : ownA σ E p := ⟨i, x, hx, hσ⟩
  have kind : ∀ j e, (nth (put E i c) j = .own e ∨ nth (put E i c) j = .bor e) → ∃ e', nth E j = .own e' ∨ nth E j = .bor e' := fun j e hj => by
    by_cases hji : j = i
    · subst hji; exact ⟨x, hx⟩
    · rw [nth_put_ne hji] at hj; exact ⟨e, hj⟩
  refine ⟨fun b u e => ?_, by rw [put_len]; exact I.len, fun j e hj => ?_, fun j e hj => ?_, fun j e hj => ?_, fun j k e1 e2 q hj hk h1 h2 => ?_⟩
  · rw [upd_ne (ne_of_none e g2)]; exact I.ex b u e
  · by_cases hji : j = i
    · subst hji
      rw [nth_put_self hi] at hj
      rcases h.eq with ⟨_, z⟩ | ⟨_, z⟩ <;> (rw [z] at hj; cases hj)
    · rw [nth_put_ne hji] at hj; exact I.val j e hj
  · by_cases hji : j = i
    · subst hji
      rw [nth_put_self hi] at hj
      rcases h.eq with ⟨_, z⟩ | ⟨_, z⟩ <;> (rw [z] at hj; cases hj)
    · rw [nth_put_ne hji] at hj
      obtain ⟨w, h1, h2⟩ := I.ro j e hj
      refine ⟨w, h1, h2.mono .refl (fun q u hq hn => ?_) (fun q u _ z => ownA_same h z)⟩
      have ne : q ≠ p := fun z => hn (by rw [z]; exact hA)
      rcases hq with hq | ⟨⟨y, hq⟩, hz⟩
      · exact .inl (by rw [upd_ne ne]; exact hq)
      · exact .inr ⟨⟨y, by rw [upd_ne ne]; exact hq⟩, hz⟩
  · by_cases hji : j = i
    · subst hji
      rw [nth_put_self hi] at hj
      have hd : e = d := by rcases h.eq with ⟨_, z⟩ | ⟨_, z⟩ <;> (rw [z] at hj; rcases hj with hj | hj <;> cases hj <;> rfl)
      subst hd
      exact ⟨p, o, hσ, g2, upd_same, ho⟩
    · rw [nth_put_ne hji] at hj
      obtain ⟨q, u, h1, h2, h3, h4⟩ := I.own j e hj
      exact ⟨q, u, h1, h2, by rw [upd_ne (fun z => hji (I.dis j i e x p hj hx (by rw [← z]; exact h1) hσ))]; exact h3, h4⟩
  · obtain ⟨e1', hj'⟩ := kind j e1 hj
    obtain ⟨e2', hk'⟩ := kind k e2 hk
    exact I.dis j k e1' e2' q hj' hk' h1 h2
theorem Fr.setCell {A0 : Addr → Prop} {i : Nat} {d : D} {c : Cell} {p : Addr} {o : HO} (F : Fr S0 H0 A0 S H (ownA σ E)) (h : sameKind (nth E i) d c) (hσ : σ[i]? = some (some (.ref p))) : Fr S0 H0 A0 S (upd H p o) (ownA σ (put E i c)) := by
  have hA : ownA σ E p := by
    rcases h.eq with ⟨⟨x, hx⟩, _⟩ | ⟨⟨x, hx⟩, _⟩
    · exact ⟨i, x, .inl hx, hσ⟩
    · exact ⟨i, x, .inr hx, hσ⟩
  refine ⟨F.ex, fun a u h1 h2 => ?_, F.free, fun a ha => F.own a (ownA_same h ha), fun a ha => ?_⟩
  · have ne : a ≠ p := fun z => by
      subst z
      rcases F.own a hA with q | q
      · exact h2 q
      · rw [q] at h1; cases h1
    rw [upd_ne ne]
    exact F.keep a u h1 h2
  · by_cases e : a = p
    · subst e; rw [upd_same]; exact fun z => nomatch z
    · rw [upd_ne e]; exact F.alive a ha
theorem sameKind.step {i : Nat} {d : D} {c : Cell} (h : sameKind (nth E i) d c) : CellStep (nth E i) c := by
  rcases h.eq with ⟨⟨x, hx⟩, z⟩ | ⟨⟨x, hx⟩, z⟩
  · rw [hx, z]; exact .inl ⟨d, rfl⟩
  · rw [hx, z]; exact ⟨d, rfl⟩
theorem Ev.setCell {i : Nat} {d : D} {c : Cell} {p : Addr} {o : HO} (e : Ev kt K S0 H0 σ E0 S H E) (h : sameKind (nth E i) d c) (hσ : σ[i]? = some (some (.ref p))) (ho : Own kt K S o d) : Ev kt K S0 H0 σ E0 S (upd H p o) (put E i c) :=
  ⟨e.si.setCell h hσ ho, e.fr.setCell h hσ, fun j => (e.cells j).trans (cells_put (fun z => by rw [z] at h; exact h) h.step j)⟩
theorem Go.setCell {i : Nat} {d : D} {c : Cell} {p : Addr} {o : HO} (g : Go kt K S0 H0 σ0 E0 S H σ E) (h : sameKind (nth E i) d c) (hσ : σ[i]? = some (some (.ref p))) (ho : Own kt K S o d) : Go kt K S0 H0 σ0 E0 S (upd H p o) σ (put E i c) :=
  g.cells (g.si.setCell h hσ ho) (g.fr.setCell h hσ) (cells_put (fun z => by rw [z] at h; exact h) h.step)
/-- the list of slot i, ours or lent -/
def lstAt (E : List Cell) (i : Nat) (k : List D → (List D → List Cell) → Prop) : Prop := match nth E i with
  | .own (.lst ds) => k ds fun x => put E i (.own (.lst x))
  | .bor (.lst ds) => k ds fun x => put E i (.bor (.lst x))
  | _ => False
theorem lstAt_ok {i : Nat} {k : List D → (List D → List Cell) → Prop} (I : SI kt K S H σ E) (h : lstAt E i k) :
    ∃ p vs ds, σ[i]? = some (some (.ref p)) ∧ H p = some (.lst vs) ∧ RpL kt K S vs ds ∧ k ds (fun x => put E i (match nth E i with | .bor _ => .bor (.lst x) | _ => .own (.lst x))) ∧ ∀ x, sameKind (nth E i) (.lst x) (match nth E i with | .bor _ => .bor (.lst x) | _ => .own (.lst x)) := by
  unfold lstAt at h
  cases e : nth E i with
  | own d =>
    cases d with
    | lst ds =>
      rw [e] at h
      obtain ⟨p, o, h1, h2, h3, h4⟩ := I.own i _ (.inl e)
      obtain ⟨vs, rfl, r⟩ := h4
      exact ⟨p, vs, ds, h1, h3, r, h, fun x => rfl⟩
    | _ => rw [e] at h; exact (show False from h).elim
  | bor d =>
    cases d with
    | lst ds =>
      rw [e] at h
      obtain ⟨p, o, h1, h2, h3, h4⟩ := I.own i _ (.inr e)
      obtain ⟨vs, rfl, r⟩ := h4
      exact ⟨p, vs, ds, h1, h3, r, h, fun x => rfl⟩
    | _ => rw [e] at h; exact (show False from h).elim
  | un => rw [e] at h; exact (show False from h).elim
  | val d => rw [e] at h; exact (show False from h).elim
  | ro d => rw [e] at h; exact (show False from h).elim
end
/-- a method of lists that changes the list: its reading on data -/
def MutD (kt : Bool) (K : PySem.W.Frag) (r : V → List V → Hp → VK → Prop) (rd : List D → List D → (D → List D → Prop) → Prop) : Prop := ∀ (S H : Hp) (l : Addr) (vs : List V) (ds : List D) (args : List V) (argds : List D) (Q : D → List D → Prop) (Q' : VK), Same S H →
  H l = some (.lst vs) → RpL kt K S vs ds → RpL kt K S args argds → rd ds argds Q → (∀ v res vs' ds', Rp kt K S v res → RpL kt K S vs' ds' → Q res ds' → Q' v (upd H l (.lst vs'))) → r (.ref l) args H Q'
def dMut (i : Nat) (da : DA) (rd : List D → List D → (D → List D → Prop) → Prop) : DE := fun E Q => lstAt E i fun _ _ => da E fun xs E1 => lstAt E1 i fun ds up => rd ds xs fun res ds' => Q (.val res) (up ds')
section
variable {X : Cx} {kt : Bool} {K : PySem.W.Frag} {e : Expr} {es : List Expr} {da : DE} {dA : DA} {x : Str} {pos p apos : Pos}
theorem mut_lk {i : Nat} {r : V → List V → Hp → VK → Prop} {rd : List D → List D → (D → List D → Prop) → Prop} {t : TA} (hd : MutD kt K r rd) (l : LkA kt K t dA) : LkE kt K (tBM K "list" r (tVar i) t) (dMut i dA rd) := by
  intro S H σ E Q Q' I h k
  obtain ⟨p0, vs0, ds0, hσ, hH, _, h1, _⟩ := lstAt_ok I h
  refine ⟨.ref p0, hσ, .inl ⟨rfl, _, .of hH⟩, l S H σ E _ _ I h1 fun S1 H1 E1 args xs e1 ra h2 => ?_⟩
  obtain ⟨p1, vs, ds, hσ1, hH1, rl, h3, sk⟩ := lstAt_ok e1.si h2
  rw [hσ] at hσ1; cases hσ1
  exact hd S1 H1 p0 vs ds args xs _ Q' e1.si.ex hH1 rl ra h3 fun v res vs' ds' rv rl' q => k _ _ _ v (.val res) (e1.setCell (o := .lst vs') (sk ds') hσ ⟨vs', rfl, rl'⟩) rv trivial q
/-- x.m(e, ..) of the list in slot i -/
theorem se_mut (i : Nat) {m : Str} {id : String} {r : V → List V → Hp → VK → Prop} {rd : List D → List D → (D → List D → Prop) → Prop} (slot : Slot "list" m id) (hty : typeOf (.builtin id) = pure (.type "method_descriptor")) (hm : MtR X id r) (hd : MutD kt X.K r rd) (ha : SA X kt (e :: es) dA)
    (hN : X.N[i]? = some x := by rfl) (hv : Vis X.env.scope x := by first | exact Or.inl rfl | exact Or.inr (Or.inl rfl) | exact Or.inr (Or.inr rfl)) (h1 : (x == ("__debug__" : Str)) = false := by decide) (h2 : (x == ("__classdict__" : Str)) = false := by decide)
    (hbase : attributeBase (.Name x p) m X.env (eval (.Name x p) X.env) = eval (.Name x p) X.env := by rfl)
    (hfew : ((backTo pos (starEach (e :: es) X.env)).all (fun x => !x.1) && (backToKw pos (keywordEach [] X.env)).all (fun x => x.1.isSome)
      && decide ((e :: es).length + ([] : List Keyword).length + (if ([] : List Keyword).isEmpty then 0 else 1) < 30)) = true := by rfl)
    (hline : (apos.endLine == pos.line) = true := by rfl) (hs : starEach (e :: es) X.env = (false, eval e X.env) :: starEach es X.env := by rfl) (hplain : (backTo pos (starEach es X.env)).any (·.1) = false := by rfl) :
    SE X kt (.Call (.Attribute (.Name x p) m apos) (e :: es) [] pos) (dMut i dA rd) := by
  obtain ⟨t, q, l⟩ := ha.ex
  exact ⟨_, pe_bm PySem.F.plainAttrs_list slot hty hm (pe_var hN hv h1 h2) q hbase hfew hline hs hplain, mut_lk hd l⟩
theorem se_mut0 (i : Nat) {m : Str} {id : String} {r : V → List V → Hp → VK → Prop} {rd : List D → List D → (D → List D → Prop) → Prop} (slot : Slot "list" m id) (hty : typeOf (.builtin id) = pure (.type "method_descriptor")) (hm : MtR X id r) (hd : MutD kt X.K r rd)
    (hN : X.N[i]? = some x := by rfl) (hv : Vis X.env.scope x := by first | exact Or.inl rfl | exact Or.inr (Or.inl rfl) | exact Or.inr (Or.inr rfl)) (h1 : (x == ("__debug__" : Str)) = false := by decide) (h2 : (x == ("__classdict__" : Str)) = false := by decide)
    (hbase : attributeBase (.Name x p) m X.env (eval (.Name x p) X.env) = eval (.Name x p) X.env := by rfl) (hline : (apos.endLine == pos.line) = true := by rfl) :
    SE X kt (.Call (.Attribute (.Name x p) m apos) [] [] pos) (dMut i dNilA rd) := by
  refine ⟨_, pe_bm0 PySem.F.plainAttrs_list slot hty hm (pe_var hN hv h1 h2) hbase hline, fun S H σ E Q Q' I h k => ?_⟩
  exact mut_lk (dA := dNilA) (t := tNil) hd (fun S H σ E Q Q' I h k => k S H E [] [] (.refl I) .nil h) S H σ E Q Q' I h k
def rdAppend : List D → List D → (D → List D → Prop) → Prop := fun ds xs Q => match xs with
  | [x] => ds.length < sizeLine ∧ Q .non (ds ++ [x])
  | _ => False
theorem md_append : MutD kt K rAppend rdAppend := by
  intro S H l vs ds args argds Q Q' e hH r ra h k
  match argds, ra, h with
  | [d], .cons ra .nil, h => exact ⟨l, vs, _, rfl, rfl, hH, by rw [r.length]; exact h.1, k _ _ _ _ .non (r.append (.cons ra .nil)) h.2⟩
  | [], _, h => exact (show False from h).elim
  | _ :: _ :: _, _, h => exact (show False from h).elim
def rdPop : List D → List D → (D → List D → Prop) → Prop := fun ds xs Q => match xs with
  | [] => ∃ d, ds[ds.length - 1]? = some d ∧ Q d ds.dropLast
  | _ => False
theorem md_pop : MutD kt K rPop rdPop := by
  intro S H l vs ds args argds Q Q' e hH r ra h k
  match argds, ra, h with
  | [], .nil, h =>
    obtain ⟨d, hd, q⟩ := h
    obtain ⟨v, hv, rv⟩ := r.get hd
    exact ⟨l, vs, v, rfl, rfl, hH, by rw [r.length]; exact hv, k _ _ _ _ rv r.dropLast q⟩
  | _ :: _, _, h => exact (show False from h).elim
def rdPopAt : List D → List D → (D → List D → Prop) → Prop := fun ds xs Q => match xs with
  | [.int i] => (-(2 ^ 63) ≤ i ∧ i < 2 ^ 63) ∧ ∃ k d, seqIndex? i ds.length = some k ∧ ds[k]? = some d ∧ Q d (ds.eraseIdx k)
  | _ => False
theorem md_popAt : MutD kt K rPopAt rdPopAt := by
  intro S H l vs ds args argds Q Q' e hH r ra h k
  match argds, ra, h with
  | [.int i], .cons ra .nil, h =>
    cases ra
    obtain ⟨⟨h1, h2⟩, j, d, h3, h4, q⟩ := h
    obtain ⟨v, hv, rv⟩ := r.get h4
    exact ⟨l, vs, i, j, v, rfl, rfl, hH, h1, h2, by rw [r.length]; exact h3, hv, k _ _ _ _ rv (r.eraseIdx j) q⟩
def rdExtend : List D → List D → (D → List D → Prop) → Prop := fun ds xs Q => match xs with
  | [.lst ys] => ds.length + ys.length ≤ sizeLine ∧ Q .non (ds ++ ys)
  | _ => False
theorem md_extend : MutD kt K rExtend rdExtend := by
  intro S H l vs ds args argds Q Q' e hH r ra h k
  match argds, ra, h with
  | [.lst ys], .cons ra .nil, h =>
    cases ra with
    | lst hb rb => exact ⟨l, _, vs, _, rfl, rfl, hH, e _ _ hb, by rw [r.length, rb.length]; exact h.1, k _ _ _ _ .non (r.append rb) h.2⟩
def rdInsert : List D → List D → (D → List D → Prop) → Prop := fun ds xs Q => match xs with
  | [.int i, y] => (ds.length < sizeLine ∧ 0 ≤ i ∧ i < 2 ^ 63) ∧ Q .non (ds.take i.toNat ++ [y] ++ ds.drop i.toNat)
  | _ => False
theorem md_insert : MutD kt K (fun x vs H Q => ∃ (l : Addr) (xs : List V) (i : Int) (y : V), x = .ref l ∧ vs = [.int i, y] ∧ H l = some (.lst xs) ∧ xs.length < sizeLine ∧ 0 ≤ i ∧ i < 2 ^ 63 ∧
    Q .non (upd H l (.lst (xs.take i.toNat ++ [y] ++ xs.drop i.toNat)))) rdInsert := by
  intro S H l vs ds args argds Q Q' e hH r ra h k
  match argds, ra, h with
  | [.int i, y], .cons r1 (.cons r2 .nil), h =>
    cases r1
    exact ⟨l, vs, i, _, rfl, rfl, hH, by rw [r.length]; exact h.1.1, h.1.2.1, h.1.2.2, k _ _ _ _ .non (((r.take _).append (.cons r2 .nil)).append (r.drop _)) h.2⟩
theorem se_append (i : Nat) (ha : SA X kt [e] dA)
    (hN : X.N[i]? = some x := by rfl) (hv : Vis X.env.scope x := by first | exact Or.inl rfl | exact Or.inr (Or.inl rfl) | exact Or.inr (Or.inr rfl)) (h1 : (x == ("__debug__" : Str)) = false := by decide) (h2 : (x == ("__classdict__" : Str)) = false := by decide)
    (hbase : attributeBase (.Name x p) "append" X.env (eval (.Name x p) X.env) = eval (.Name x p) X.env := by rfl)
    (hfew : ((backTo pos (starEach [e] X.env)).all (fun x => !x.1) && (backToKw pos (keywordEach [] X.env)).all (fun x => x.1.isSome)
      && decide (([e] : List Expr).length + ([] : List Keyword).length + (if ([] : List Keyword).isEmpty then 0 else 1) < 30)) = true := by rfl)
    (hline : (apos.endLine == pos.line) = true := by rfl) (hs : starEach [e] X.env = (false, eval e X.env) :: starEach [] X.env := by rfl) (hplain : (backTo pos (starEach [] X.env)).any (·.1) = false := by rfl) :
    SE X kt (.Call (.Attribute (.Name x p) "append" apos) [e] [] pos) (dMut i dA rdAppend) :=
  se_mut i PySem.F.slot_list_append PySem.F.type_list_append mt_append md_append ha hN hv h1 h2 hbase hfew hline hs hplain
/-! ### xs[k] = e, xs the list in slot i -/
def gSubL (i : Nat) (dk : DE) : DG := fun r E Q => frz E r fun d E1 => lstAt E1 i fun _ _ => dk E1 fun rk E2 => vw E2 rk fun dv => match dv with
  | .int k => lstAt E2 i fun ds up => ∃ j, ixN ds.length k = some j ∧ Q (up (ds.set j d))
  | _ => False
theorem sg_sub (i : Nat) {y : Expr} {dk : DE} (hk : SE X kt y dk) (hN : X.N[i]? = some x := by rfl) (hv : Vis X.env.scope x := by first | exact Or.inl rfl | exact Or.inr (Or.inl rfl) | exact Or.inr (Or.inr rfl)) (h1 : (x == ("__debug__" : Str)) = false := by decide) (h2 : (x == ("__classdict__" : Str)) = false := by decide)
    (ha : ∀ v, assign (.Subscript (.Name x p) y pos) X.env v = (do
      let ov ← holding [v] (eval (.Name x p) X.env)
      let iv ← holding [v, ov] (eval y X.env)
      standAt pos
      holding [v, ov, iv] (setItem ov iv v)
      release [v, ov, iv] []) := by intro _; rfl) : SG X kt (.Subscript (.Name x p) y pos) (gSubL i dk) := by
  obtain ⟨t, q, l⟩ := hk.ex
  refine ⟨_, pg_sub (pe_var hN hv h1 h2) q set_list ha, fun S0 H0 σ0 E0 S H σ E v r Q Q' I0 g rr n h k => ?_⟩
  obtain ⟨S1, E1, d, I1, F1, c1, le, r1, q1⟩ := frz_ok g.fr g.si rr n h
  have g1 := g.cells I1 F1 c1
  obtain ⟨p0, vs0, ds0, hσ, hH, _, q2, _⟩ := lstAt_ok I1 q1
  refine ⟨.ref p0, hσ, l S1 H σ E1 _ _ I1 q2 fun S2 H2 E2 kv rk e2 qk nk h3 => ?_⟩
  obtain ⟨dv, w, h4⟩ := vw_ok e2.si qk h3
  cases dv with
  | int kk =>
    obtain ⟨p1, vs, ds, hσ1, hH1, rl, h5, sk⟩ := lstAt_ok e2.si h4
    obtain ⟨j, hj, h6⟩ := h5
    rw [hσ] at hσ1; cases hσ1
    refine ⟨p0, vs, kk, j, rfl, w.int, hH1, by rw [rl.length]; exact hj, k _ _ _ _ ((g1.trans (e2.go I1)).setCell (o := .lst (vs.set j v)) (sk (ds.set j d)) hσ ⟨_, rfl, rl.set j (r1.mono (le_of e2.fr.ex))⟩) (le.trans e2.fr.ex) h6⟩
  | _ => exact (show False from h4).elim
end
/-! ### while -/
def sWhile (c : DT) (body : DS) : DS := fun DD E => ∃ W : Nat → List Cell → Prop, (∃ m, W m E) ∧ ∀ m E, W m E → c E fun b E1 => if b = true then body { DD with nx := fun E' => ∃ m', m' < m ∧ W m' E', ct := fun E' => ∃ m', m' < m ∧ W m' E', bk := DD.nx } E1 else DD.nx E1
section
variable {X : Cx} {kt : Bool} {K : PySem.W.Frag} {c : Expr} {body : List Stmt} {tx : DT} {ds : DS} {pos : Pos}
theorem ss_while (hp : PassesOwn (model X.prog X.w) X.A X.env X.xe) (hc : ST X kt c tx) (hb : SSs X kt body ds) : SS X kt (.While c body [] pos) (sWhile tx ds) := by
  obtain ⟨t, p, l⟩ := hc.ex
  obtain ⟨u, q, m⟩ := hb.ex
  refine ⟨_, ps_while hp p q, fun S H σ E DD D I h e => ?_⟩
  obtain ⟨W, ⟨m0, w0⟩, turn⟩ := h
  refine ⟨fun n σ' H' => ∃ S' E', Go kt X.K S H σ E S' H' σ' E' ∧ W n E', ⟨m0, S, E, .refl I, w0⟩, fun n σ1 H1 ⟨S1, E1, g1, w1⟩ => ?_⟩
  refine l S1 H1 σ1 E1 _ _ g1.si (turn n E1 w1) fun S2 H2 E2 b e2 h2 => ?_
  have g2 := g1.trans (e2.go g1.si)
  cases b with
  | true =>
    rw [if_pos rfl] at h2 ⊢
    refine ⟨fun σ' H' => ∃ m', m' < n ∧ ∃ S' E', Go kt X.K S H σ E S' H' σ' E' ∧ W m' E', fun σ' H' z => z, m S2 H2 σ1 E2 _ _ g2.si h2 ?_⟩
    have eb := e.back I g2
    exact ⟨fun S3 H3 σ3 E3 g3 ⟨m', hm, w⟩ => ⟨m', hm, S3, E3, g2.trans g3, w⟩, fun S3 H3 σ3 E3 g3 hn => eb.nx _ _ _ _ g3 hn, fun S3 H3 σ3 E3 g3 ⟨m', hm, w⟩ => ⟨m', hm, S3, E3, g2.trans g3, w⟩, eb.rt⟩
  | false =>
    rw [if_neg Bool.false_ne_true] at h2 ⊢
    exact (e.back I g2).nx _ _ _ _ (.refl g2.si) h2
end
/-! ### for: what is walked -/
abbrev DFin := List Cell → (List Cell → Prop) → Prop
abbrev DI := List Cell → (List D → DFin → List Cell → Prop) → Prop
section
variable (kt : Bool) (K : PySem.W.Frag)
structure SrcOk (S1 H1 : Hp) (A1 : Addr → Prop) (J : It) (items : List D) : Prop where
  goes : ∀ S H σ E, SI kt K S H σ E → Fr S1 H1 A1 S H (ownA σ E) → ∀ i, i < items.length → J.go i H
  stops : ∀ S H σ E, SI kt K S H σ E → Fr S1 H1 A1 S H (ownA σ E) → J.stop items.length H
  yields : ∀ S H σ E, SI kt K S H σ E → Fr S1 H1 A1 S H (ownA σ E) → ∀ i x H', i < items.length → J.yld i H x H' → ∃ S' d, items[i]? = some d ∧ Ev kt K S H σ E S' H' E ∧ Rp kt K S' x d
/-- the source's own slot is locked while the walk lasts; fin unlocks it -/
structure Prot (S H : Hp) (σ : L2.St) (E : List Cell) (S1 H1 : Hp) (E1 : List Cell) (fin : DFin) : Prop where
  si : SI kt K S1 H1 σ E1
  fr : Fr S H (ownA σ E) S1 H1 (ownA σ E1)
  own : ∀ a, ownN σ E1 a → ownN σ E a ∨ H a = none
  back : ∀ S2 H2 σ2 E2, Go kt K S1 H1 σ E1 S2 H2 σ2 E2 → ∀ k, fin E2 k → ∃ E3, Go kt K S H σ E S2 H2 σ2 E3 ∧ ((∀ j, CellStep (nth E1 j) (nth E2 j)) → ∀ j, CellStep (nth E j) (nth E3 j)) ∧ k E3
def LkI (wi : TI) (di : DI) : Prop := ∀ (S H : Hp) (σ : L2.St) (E : List Cell) (Q : List D → DFin → List Cell → Prop) (R : It → Hp → Prop), SI kt K S H σ E → di E Q →
  (∀ S1 H1 E1 J items fin, Prot kt K S H σ E S1 H1 E1 fin → SrcOk kt K S1 H1 (ownA σ E1) J items → Q items fin E1 → R J H1) → wi σ H R
end
structure SI_ (X : Cx) (kt : Bool) (tg iter : Expr) (d : DI) : Prop where
  ex : ∃ wi, PI X tg iter wi ∧ LkI kt X.K wi d
def dForL (g : DG) (body : DS) (nx bk : List Cell → Prop) (rt : R → List Cell → Prop) : List D → List Cell → Prop
  | [], E => nx E
  | x :: r, E => g (.val x) E fun E1 => body ⟨dForL g body nx bk rt r, rt, bk, dForL g body nx bk rt r⟩ E1
def sFor (src : DI) (g : DG) (body : DS) : DS := fun DD E => src E fun items fin E1 => dForL g body (fun E => fin E DD.nx) (fun E => fin E DD.nx) (fun r E => fin E (DD.rt r)) items E1
section
variable {X : Cx} {kt : Bool} {K : PySem.W.Frag} {tg iter : Expr} {body : List Stmt} {src : DI} {g : DG} {ds : DS} {pos : Pos}
theorem ss_for (hp : PassesOwn (model X.prog X.w) X.A X.env X.xe) (hc : X.calm = true) (hi : SI_ X kt tg iter src) (hg : SG X kt tg g) (hb : SSs X kt body ds) (hs : ∀ x, foldedSetIterable iter X.env x = pure x := by intro _; rfl) : SS X kt (.For tg iter body [] pos) (sFor src g ds) := by
  obtain ⟨wi, p, l⟩ := hi.ex
  obtain ⟨tg', pg, lg⟩ := hg.ex
  obtain ⟨tb, pb, lb⟩ := hb.ex
  refine ⟨_, ps_for hp hc p pg pb hs, fun S H σ E DD D I h e => ?_⟩
  refine l S H σ E _ _ I h fun S1 H1 E1 J items fin pr so h1 => ?_
  refine ⟨fun i m σ' H' => m = items.length - i ∧ i ≤ items.length ∧ ∃ S' E', Go kt X.K S1 H1 σ E1 S' H' σ' E' ∧ dForL g ds (fun E => fin E DD.nx) (fun E => fin E DD.nx) (fun r E => fin E (DD.rt r)) (items.drop i) E', ⟨items.length, by simp, Nat.zero_le _, S1, E1, .refl pr.si, h1⟩, ?_⟩
  rintro i m σ3 H3 ⟨rfl, hi', S3, E3, g3, w3⟩
  by_cases hlt : i < items.length
  · refine .inr ⟨so.goes S3 H3 σ3 E3 g3.si g3.fr i hlt, fun σ' H' => ∃ S' E', Go kt X.K S1 H1 σ E1 S' H' σ' E' ∧ dForL g ds (fun E => fin E DD.nx) (fun E => fin E DD.nx) (fun r E => fin E (DD.rt r)) (items.drop (i + 1)) E', fun σ' H' ⟨S', E', a, b⟩ => ⟨items.length - (i + 1), by omega, rfl, hlt, S', E', a, b⟩, fun x H4 y => ?_⟩
    obtain ⟨S4, d, hd, e4, r4⟩ := so.yields S3 H3 σ3 E3 g3.si g3.fr i x H4 hlt y
    have hdrop : items.drop i = d :: items.drop (i + 1) := by
      rw [List.drop_eq_getElem_cons hlt]
      have : items[i] = d := by rw [List.getElem?_eq_getElem hlt] at hd; exact Option.some.inj hd
      rw [this]
    rw [hdrop] at w3
    have g4 : Go kt X.K S1 H1 σ E1 S4 H4 σ3 E3 := g3.trans (e4.go g3.si)
    refine lg S1 H1 σ E1 S4 H4 σ3 E3 x (.val d) _ _ pr.si g4 r4 trivial w3 fun S5 H5 σ5 E5 g5 _ h5 => ?_
    refine lb S5 H5 σ5 E5 _ _ g5.si h5 ⟨fun S6 H6 σ6 E6 g6 h6 => ⟨S6, E6, g5.trans g6, h6⟩, fun S6 H6 σ6 E6 g6 h6 => ?_, fun S6 H6 σ6 E6 g6 h6 => ⟨S6, E6, g5.trans g6, h6⟩, fun S6 H6 σ6 E6 v r g6 rr h6 => ?_⟩
    · obtain ⟨E7, g7, _, k7⟩ := pr.back _ _ _ _ (g5.trans g6) _ h6
      exact e.nx _ _ _ _ g7 k7
    · obtain ⟨E7, g7, _, k7⟩ := pr.back _ _ _ _ (g5.trans g6) _ h6
      refine e.rt _ _ _ _ v r g7 ?_ k7
      have r7 := rr.back pr.si g5
      cases r with
      | val d => exact r7
      | cell i => exact r7
      | fr d =>
        obtain ⟨q, o, a1, a2, a3, a4, a5⟩ := r7
        refine ⟨q, o, a1, a2, ?_, a4, a5⟩
        rcases a3 with z | z
        · exact pr.own q z
        · exact .inr (pr.fr.back z)
  · have ei : i = items.length := by omega
    subst ei
    rw [List.drop_length] at w3
    obtain ⟨E7, g7, _, k7⟩ := pr.back _ _ _ _ g3 _ w3
    exact .inl ⟨so.stops S3 H3 σ3 E3 g3.si g3.fr, e.nx _ _ _ _ g7 k7⟩
end
end BD
set_option Elab.async false
set_option linter.all false
set_option maxRecDepth 100000
set_option maxHeartbeats 2000000
/-! BD: what is walked. -/
namespace BD
open PySem PySem.Spec PyProof.Rows L2
def finId : DFin := fun E k => k E
def finOwn (i : Nat) : DFin := fun E k => match nth E i with | .ro d => k (put E i (.own d)) | _ => k E
def finBor (i : Nat) : DFin := fun E k => match nth E i with | .ro d => k (put E i (.bor d)) | _ => False
section
variable {kt : Bool} {K : PySem.W.Frag} {S H S' H' S1 H1 S2 H2 S0 H0 : Hp} {σ σ1 σ2 σ0 : L2.St} {E E' E1 E2 E0 : List Cell} {v : V} {r : R} {i : Nat} {d : D}
theorem ownA_lock {a : Addr} (h : ownA σ (put E i (.ro d)) a) : ∃ j e, j ≠ i ∧ (nth E j = .own e ∨ nth E j = .bor e) ∧ σ[j]? = some (some (.ref a)) := by
  obtain ⟨j, e, hj, hσ⟩ := h
  rw [nth_put2] at hj
  by_cases h1 : j = i ∧ i < E.length
  · rw [if_pos h1] at hj; rcases hj with z | z <;> cases z
  · rw [if_neg h1] at hj
    refine ⟨j, e, fun z => h1 ⟨z, ?_⟩, hj, hσ⟩
    rw [← z]
    exact nth_in fun q => by rw [q] at hj; rcases hj with z | z <;> cases z
theorem ownA_lock' {a : Addr} (h : ownA σ (put E i (.ro d)) a) : ownA σ E a := let ⟨j, e, _, h1, h2⟩ := ownA_lock h; ⟨j, e, h1, h2⟩
/-- a slot's container is locked -/
theorem SI.lock {p : Addr} {o : HO} (I : SI kt K S H σ E) (hi : nth E i = .own d ∨ nth E i = .bor d) (hσ : σ[i]? = some (some (.ref p))) (hp : H p = some o) (ho : Own kt K S o d) : SI kt K S H σ (put E i (.ro d)) := by
  have hl : i < E.length := nth_in fun q => by rw [q] at hi; rcases hi with z | z <;> cases z
  refine ⟨I.ex, by rw [put_len]; exact I.len, fun j e hj => ?_, fun j e hj => ?_, fun j e hj => ?_, fun j k e1 e2 q hj hk h1 h2 => ?_⟩
  · by_cases hji : j = i
    · subst hji; rw [nth_put_self hl] at hj; cases hj
    · rw [nth_put_ne hji] at hj; exact I.val j e hj
  · by_cases hji : j = i
    · subst hji
      rw [nth_put_self hl] at hj; cases hj
      refine ⟨_, hσ, .inr ⟨p, o, rfl, .inl hp, ho, fun z => ?_⟩⟩
      obtain ⟨k, e, hk, hk1, hk2⟩ := ownA_lock z
      exact hk (I.dis k j e _ p hk1 hi hk2 hσ)
    · rw [nth_put_ne hji] at hj
      obtain ⟨w, h1, h2⟩ := I.ro j e hj
      exact ⟨w, h1, h2.mono .refl (fun _ _ h _ => h) (fun _ _ _ z => ownA_lock' z)⟩
  · by_cases hji : j = i
    · subst hji; rw [nth_put_self hl] at hj; rcases hj with z | z <;> cases z
    · rw [nth_put_ne hji] at hj; exact I.own j e hj
  · by_cases hji : j = i
    · subst hji; rw [nth_put_self hl] at hj; rcases hj with z | z <;> cases z
    · by_cases hki : k = i
      · subst hki; rw [nth_put_self hl] at hk; rcases hk with z | z <;> cases z
      · rw [nth_put_ne hji] at hj
        rw [nth_put_ne hki] at hk
        exact I.dis j k e1 e2 q hj hk h1 h2
/-- and unlocked -/
theorem Go.unlock {p : Addr} {o : HO} {c : Cell} (I : SI kt K S H σ E) (hi : nth E i = .own d ∨ nth E i = .bor d) (hσ : σ[i]? = some (some (.ref p))) (hp : H p = some o) (hs : S p = none) (ho : Own kt K S o d)
    (g : Go kt K S H σ (put E i (.ro d)) S2 H2 σ2 E2) (hr : nth E2 i = .ro d) (hc : c = nth E i) : Go kt K S H σ E S2 H2 σ2 (put E2 i c) := by
  have hl : i < E.length := nth_in fun q => by rw [q] at hi; rcases hi with z | z <;> cases z
  have hl2 : i < E2.length := by rw [g.len, put_len]; exact hl
  have hc' : c = .own d ∨ c = .bor d := by rw [hc]; exact hi
  have nA : ¬ ownA σ (put E i (.ro d)) p := fun z => by
    obtain ⟨k, e, hk, hk1, hk2⟩ := ownA_lock z
    exact hk (I.dis k i e _ p hk1 hi hk2 hσ)
  have hσ2 : σ2[i]? = some (some (.ref p)) := (g.ro i d hr).2.trans hσ
  have hs2 : S2 p = none := g.fr.free p (by rw [hp]; exact fun z => nomatch z) hs nA
  have hp2 : H2 p = some o := g.fr.keep p o hp nA
  have nA2 : ¬ ownA σ2 E2 p := fun z => by
    rcases g.fr.own p z with q | q
    · exact nA q
    · rw [hp] at q; cases q
  have old : ∀ a, ownA σ2 (put E2 i c) a → ownA σ2 E2 a ∨ a = p := fun a ⟨j, e, hj, hσj⟩ => by
    by_cases hji : j = i
    · subst hji
      rw [hσ2] at hσj; cases hσj
      exact .inr rfl
    · rw [nth_put_ne hji] at hj
      exact .inl ⟨j, e, hj, hσj⟩
  have I2 := g.si
  refine ⟨⟨I2.ex, by rw [put_len]; exact I2.len, fun j e hj => ?_, fun j e hj => ?_, fun j e hj => ?_, fun j k e1 e2 q hj hk h1 h2 => ?_⟩, ⟨g.fr.ex, fun a u h1 h2 => g.fr.keep a u h1 fun z => h2 (ownA_lock' z), fun a h1 h2 h3 => g.fr.free a h1 h2 fun z => h3 (ownA_lock' z), fun a ha => ?_, g.fr.alive⟩, fun j e hj => ?_, fun j e hj => ?_, fun j e hj => ?_, by rw [put_len, g.len, put_len]⟩
  · by_cases hji : j = i
    · subst hji; rw [nth_put_self hl2] at hj; rcases hc' with z | z <;> (rw [z] at hj; cases hj)
    · rw [nth_put_ne hji] at hj; exact I2.val j e hj
  · by_cases hji : j = i
    · subst hji; rw [nth_put_self hl2] at hj; rcases hc' with z | z <;> (rw [z] at hj; cases hj)
    · rw [nth_put_ne hji] at hj
      obtain ⟨w, h1, h2⟩ := I2.ro j e hj
      refine ⟨w, h1, ?_⟩
      obtain ⟨a1, a2⟩ := g.ro j e hj
      rw [nth_put_ne hji] at a1
      obtain ⟨w', b1, b2⟩ := I.ro j e a1
      rw [a2, b1] at h1; cases h1
      rcases b2 with b2 | ⟨q, u, rfl, b3, b4, b5⟩
      · exact .inl (b2.mono (le_of g.fr.ex))
      · rcases h2 with h2 | ⟨q', u', e1, c3, c4, c5⟩
        · exact .inl h2
        · cases e1
          refine .inr ⟨q, u', rfl, c3, c4, fun z => ?_⟩
          rcases old q z with y | y
          · exact c5 y
          · subst y; exact b5 ⟨i, d, hi, hσ⟩
  · by_cases hji : j = i
    · subst hji
      rw [nth_put_self hl2] at hj
      have : e = d := by rcases hc' with z | z <;> (rw [z] at hj; rcases hj with hj | hj <;> cases hj <;> rfl)
      subst this
      exact ⟨p, o, hσ2, hs2, hp2, ho.mono (le_of g.fr.ex)⟩
    · rw [nth_put_ne hji] at hj; exact I2.own j e hj
  · by_cases hji : j = i
    · by_cases hki : k = i
      · exact hji.trans hki.symm
      · subst hji
        rw [hσ2] at h1; cases h1
        rw [nth_put_ne hki] at hk
        exact absurd ⟨k, e2, hk, h2⟩ nA2
    · by_cases hki : k = i
      · subst hki
        rw [hσ2] at h2; cases h2
        rw [nth_put_ne hji] at hj
        exact absurd ⟨j, e1, hj, h1⟩ nA2
      · rw [nth_put_ne hji] at hj
        rw [nth_put_ne hki] at hk
        exact I2.dis j k e1 e2 q hj hk h1 h2
  · rcases old a ha with z | z
    · rcases g.fr.own a z with y | y
      · exact .inl (ownA_lock' y)
      · exact .inr y
    · subst z; exact .inl ⟨i, d, hi, hσ⟩
  · by_cases hji : j = i
    · subst hji
      refine ⟨(g.ro j d hr).2, ?_⟩
      rw [nth_put_self hl2, hc, hj]
      exact ⟨e, rfl⟩
    · obtain ⟨a1, a2⟩ := g.bor j e (by rw [nth_put_ne hji]; exact hj)
      exact ⟨a1, by rw [nth_put_ne hji]; exact a2⟩
  · by_cases hji : j = i
    · subst hji
      rw [nth_put_self hl2, hc] at hj
      exact ⟨e, hj⟩
    · rw [nth_put_ne hji] at hj
      obtain ⟨e', he⟩ := g.borb j e hj
      rw [nth_put_ne hji] at he
      exact ⟨e', he⟩
  · by_cases hji : j = i
    · subst hji; rw [nth_put_self hl2] at hj; rcases hc' with z | z <;> (rw [z] at hj; cases hj)
    · rw [nth_put_ne hji] at hj
      obtain ⟨a1, a2⟩ := g.ro j e hj
      rw [nth_put_ne hji] at a1
      exact ⟨a1, a2⟩
/-- the locked slot got another value meanwhile -/
theorem Go.gone {p : Addr} {o : HO} (I : SI kt K S H σ E) (hi : nth E i = .own d) (hσ : σ[i]? = some (some (.ref p)))
    (g : Go kt K S H σ (put E i (.ro d)) S2 H2 σ2 E2) (hr : ∀ e, nth E2 i ≠ .ro e) : Go kt K S H σ E S2 H2 σ2 E2 := by
  have hl : i < E.length := nth_in fun q => by rw [q] at hi; cases hi
  refine ⟨g.si, ⟨g.fr.ex, fun a u h1 h2 => g.fr.keep a u h1 fun z => h2 (ownA_lock' z), fun a h1 h2 h3 => g.fr.free a h1 h2 fun z => h3 (ownA_lock' z), fun a ha => (g.fr.own a ha).elim (fun z => .inl (ownA_lock' z)) .inr, g.fr.alive⟩, fun j e hj => ?_, fun j e hj => ?_, fun j e hj => ?_, by rw [g.len, put_len]⟩
  · have hji : j ≠ i := fun z => by subst z; rw [hi] at hj; cases hj
    exact g.bor j e (by rw [nth_put_ne hji]; exact hj)
  · obtain ⟨e', he⟩ := g.borb j e hj
    by_cases hji : j = i
    · subst hji; rw [nth_put_self hl] at he; cases he
    · rw [nth_put_ne hji] at he; exact ⟨e', he⟩
  · obtain ⟨a1, a2⟩ := g.ro j e hj
    by_cases hji : j = i
    · subst hji; exact absurd hj (hr e)
    · rw [nth_put_ne hji] at a1; exact ⟨a1, a2⟩
theorem Prot.id (I : SI kt K S H σ E) (e : Ev kt K S H σ E S1 H1 E1) : Prot kt K S H σ E S1 H1 E1 finId :=
  ⟨e.si, e.fr, fun a h => (e.go I).ownN I h, fun S2 H2 σ2 E2 g k h => ⟨E2, (e.go I).trans g, fun c j => (e.cells j).trans (c j), h⟩⟩
/-- the container at a, of what r tells, locked if it is a slot's own -/
theorem Prot.lock {p : Addr} {o : HO} {fin : DFin} (I0 : SI kt K S0 H0 σ E0) (e : Ev kt K S0 H0 σ E0 S H E) (hi : (nth E i = .own d ∧ fin = finOwn i) ∨ (nth E i = .bor d ∧ fin = finBor i)) (hσ : σ[i]? = some (some (.ref p))) (hp : H p = some o) (hs : S p = none) (ho : Own kt K S o d) : Prot kt K S0 H0 σ E0 S H (put E i (.ro d)) fin := by
  have hi' : nth E i = .own d ∨ nth E i = .bor d := hi.elim (fun z => .inl z.1) fun z => .inr z.1
  have g0 := e.go I0
  have hsub : ∀ a, ownN σ (put E i (.ro d)) a → ownN σ E a := fun a ⟨j, x, hj, hσj⟩ => by
    rw [nth_put2] at hj
    by_cases h1 : j = i ∧ i < E.length
    · rw [if_pos h1] at hj; cases hj
    · rw [if_neg h1] at hj; exact ⟨j, x, hj, hσj⟩
  refine ⟨e.si.lock hi' hσ hp ho, ⟨e.fr.ex, e.fr.keep, e.fr.free, fun a ha => e.fr.own a (ownA_lock' ha), e.fr.alive⟩, fun a h => g0.ownN I0 (hsub a h), fun S2 H2 σ2 E2 g k h => ?_⟩
  have hl : i < E.length := nth_in fun q => by rw [q] at hi'; rcases hi' with z | z <;> cases z
  have cs : ∀ c, (c = .own d ∨ c = .bor d) → nth E i = c → (∀ j, CellStep (nth (put E i (.ro d)) j) (nth E2 j)) → ∀ j, CellStep (nth E0 j) (nth (put E2 i c) j) := fun c hc hci hs j => by
    refine (e.cells j).trans ?_
    by_cases hji : j = i
    · subst hji
      rw [nth_put_self (by rw [g.len, put_len]; exact hl), hci]
      exact .refl _
    · have := hs j
      rw [nth_put_ne hji] at this
      rw [nth_put_ne hji]
      exact this
  have ng : (∀ e, nth E2 i ≠ .ro e) → (∀ j, CellStep (nth (put E i (.ro d)) j) (nth E2 j)) → ∀ j, CellStep (nth E0 j) (nth E2 j) := fun hn hs j => by
    have := hs i
    rw [nth_put_self hl] at this
    exact absurd (show nth E2 i = .ro d from this) (hn d)
  rcases hi with ⟨h1, rfl⟩ | ⟨h1, rfl⟩
  · have h' : (match nth E2 i with | .ro x => k (put E2 i (.own x)) | _ => k E2) := h
    cases z : nth E2 i with
    | ro x =>
      rw [z] at h'
      have hx : x = d := by
        have := (g.ro i x z).1
        rw [nth_put_self (nth_in fun q => by rw [q] at h1; cases h1)] at this
        cases this; rfl
      subst hx
      exact ⟨_, g0.trans (g.unlock e.si hi' hσ hp hs ho z (c := .own x) h1.symm), cs _ (.inl rfl) h1, h'⟩
    | un => rw [z] at h'; exact ⟨_, g0.trans (g.gone e.si h1 hσ (fun y q => by rw [z] at q; cases q) (o := o)), ng (fun y q => by rw [z] at q; cases q), h'⟩
    | val y => rw [z] at h'; exact ⟨_, g0.trans (g.gone e.si h1 hσ (fun y q => by rw [z] at q; cases q) (o := o)), ng (fun y q => by rw [z] at q; cases q), h'⟩
    | own y => rw [z] at h'; exact ⟨_, g0.trans (g.gone e.si h1 hσ (fun y q => by rw [z] at q; cases q) (o := o)), ng (fun y q => by rw [z] at q; cases q), h'⟩
    | bor y => rw [z] at h'; exact ⟨_, g0.trans (g.gone e.si h1 hσ (fun y q => by rw [z] at q; cases q) (o := o)), ng (fun y q => by rw [z] at q; cases q), h'⟩
  · have h' : (match nth E2 i with | .ro x => k (put E2 i (.bor x)) | _ => False) := h
    cases z : nth E2 i with
    | ro x =>
      rw [z] at h'
      have hx : x = d := by
        have := (g.ro i x z).1
        rw [nth_put_self (nth_in fun q => by rw [q] at h1; cases h1)] at this
        cases this; rfl
      subst hx
      exact ⟨_, g0.trans (g.unlock e.si hi' hσ hp hs ho z (c := .bor x) h1.symm), cs _ (.inr rfl) h1, h'⟩
    | _ => rw [z] at h'; exact (show False from h').elim
end
/-- a container that is walked -/
def walkOf (E : List Cell) (r : R) (k : D → DFin → List Cell → Prop) : Prop := match r with
  | .val d => k d finId E
  | .fr d => k d finId E
  | .cell i => match nth E i with
    | .un => False
    | .val d => k d finId E
    | .ro d => k d finId E
    | .own d => k d (finOwn i) (put E i (.ro d))
    | .bor d => k d (finBor i) (put E i (.ro d))
/-- v is data that stays, or a container that stays while the walk lasts -/
def Kept (kt : Bool) (K : PySem.W.Frag) (S1 H1 : Hp) (A1 : Addr → Prop) (v : V) (d : D) : Prop := Rp kt K S1 v d ∨ ∃ p o, v = .ref p ∧ RdD H1 p o ∧ ¬ A1 p ∧ Own kt K S1 o d
section
variable {kt : Bool} {K : PySem.W.Frag} {S H S' H' S1 H1 S2 H2 S0 H0 : Hp} {σ σ1 σ2 σ0 : L2.St} {E E' E1 E2 E0 : List Cell} {v : V} {r : R} {i : Nat} {d : D}
theorem Kept.at {A1 A : Addr → Prop} (h : Kept kt K S1 H1 A1 v d) (F : Fr S1 H1 A1 S H A) : Kept kt K S H A v d := by
  rcases h with h | ⟨p, o, rfl, hr, hn, ho⟩
  · exact .inl (h.mono (le_of F.ex))
  · refine .inr ⟨p, o, rfl, ?_, fun z => ?_, ho.mono (le_of F.ex)⟩
    · rcases hr with hr | ⟨⟨w, hr⟩, hz⟩
      · exact .inl (F.keep p o hr hn)
      · exact .inr ⟨⟨w, F.keep p _ hr hn⟩, hz⟩
    · rcases F.own p z with q | q
      · exact hn q
      · rcases hr with hr | ⟨⟨w, hr⟩, hz⟩ <;> (rw [q] at hr; cases hr)
theorem Kept.vw {A : Addr → Prop} (h : Kept kt K S H A v d) : Vw kt K S H v d := h.elim .inl fun ⟨p, o, h1, h2, _, h4⟩ => .inr ⟨p, o, h1, h2, h4⟩
theorem walk_ok {k : D → DFin → List Cell → Prop} (I0 : SI kt K S0 H0 σ E0) (e : Ev kt K S0 H0 σ E0 S H E) (q : RepR kt K S H σ E v r) (n : New H0 v r) (h : walkOf E r k) :
    ∃ S1 E1 fin d, Prot kt K S0 H0 σ E0 S1 H E1 fin ∧ Kept kt K S1 H (ownA σ E1) v d ∧ k d fin E1 := by
  cases r with
  | val d => exact ⟨S, E, finId, d, .id I0 e, .inl q, h⟩
  | fr d =>
    obtain ⟨p, o, rfl, h2, h3, h4, h5⟩ := q
    have e' := e.stay h4 h2 h3 (n p rfl)
    have le : Same S (upd S p o) := fun b u z => by rw [upd_ne (ne_of_none z h2)]; exact z
    exact ⟨_, E, finId, d, .id I0 e', .inl ((h5.mono (le_of le)).rp upd_same), h⟩
  | cell i =>
    obtain ⟨h1, h2⟩ := q
    have h' : (match nth E i with | .un => False | .val d => k d finId E | .ro d => k d finId E | .own d => k d (finOwn i) (put E i (.ro d)) | .bor d => k d (finBor i) (put E i (.ro d))) := h
    have lk : ∀ d fin, ((nth E i = .own d ∧ fin = finOwn i) ∨ (nth E i = .bor d ∧ fin = finBor i)) → k d fin (put E i (.ro d)) → ∃ S1 E1 fin d, Prot kt K S0 H0 σ E0 S1 H E1 fin ∧ Kept kt K S1 H (ownA σ E1) v d ∧ k d fin E1 := fun d fin hi hk => by
      have hi' : nth E i = .own d ∨ nth E i = .bor d := hi.elim (fun z => .inl z.1) fun z => .inr z.1
      obtain ⟨p, o, a1, a2, a3, a4⟩ := e.si.own i d hi'
      have a1' := a1
      rw [h1] at a1; cases a1
      refine ⟨S, _, fin, d, .lock I0 e hi h1 a3 a2 a4, .inr ⟨p, o, rfl, .inl a3, fun z => ?_, a4⟩, hk⟩
      obtain ⟨j, x, hj, hj1, hj2⟩ := ownA_lock z
      exact hj (e.si.dis j i x d p hj1 hi' hj2 h1)
    cases z : nth E i with
    | un => exact absurd z h2
    | val d =>
      rw [z] at h'
      obtain ⟨w, a1, a2⟩ := e.si.val i d z
      rw [h1] at a1; cases a1
      exact ⟨S, E, finId, d, .id I0 e, .inl a2, h'⟩
    | ro d =>
      rw [z] at h'
      obtain ⟨w, a1, a2⟩ := e.si.ro i d z
      rw [h1] at a1; cases a1
      refine ⟨S, E, finId, d, .id I0 e, ?_, h'⟩
      rcases a2 with a2 | ⟨p, o, b1, b2, b3, b4⟩
      · exact .inl a2
      · exact .inr ⟨p, o, b1, b2, b4, b3⟩
    | own d => rw [z] at h'; exact lk d _ (.inl ⟨z, rfl⟩) h'
    | bor d => rw [z] at h'; exact lk d _ (.inr ⟨z, rfl⟩) h'
end
end BD
set_option Elab.async false
set_option linter.all false
set_option maxRecDepth 100000
set_option maxHeartbeats 2000000
/-! BD: sources of walks; comprehensions. -/
namespace BD
open PySem PySem.Spec PyProof.Rows L2
@[irreducible] def rangeD (lo : Int) (n : Nat) : List D := (List.range n).map fun i => .int (lo + (i : Nat))
@[irreducible] def rangeC (lo c : Int) (n : Nat) : List D := (List.range n).map fun i => .int (lo + (i : Nat) * c)
def signsD (z : Str) : List D := z.cps.toList.map fun c => .str ⟨#[c]⟩
def enumD (ds : List D) : List D := ds.zipIdx.map fun p => .tup [.int (p.2 : Nat), p.1]
def iL (da : DE) : DI := fun E Q => da E fun r E1 => walkOf E1 r fun d fin E2 => match d with
  | .lst ds => Q ds fin E2
  | .scr ns => Q (ns.map .int) fin E2
  | _ => False
def iT (da : DE) : DI := fun E Q => da E fun r E1 => walkOf E1 r fun d fin E2 => match d with
  | .tup ds => Q ds fin E2
  | _ => False
def iS (da : DE) : DI := fun E Q => da E fun r E1 => vw E1 r fun d => match d with
  | .str z => Q (signsD z) finId E1
  | _ => False
def iR1 (dr : DR) : DI := fun E Q => dr E fun rs E1 => vws E1 rs fun ds => match ds with
  | [.int j] => (-(2 ^ 62) ≤ j ∧ j < 2 ^ 62) ∧ Q (rangeD 0 j.toNat) finId E1
  | _ => False
def iR2 (dr : DR) : DI := fun E Q => dr E fun rs E1 => vws E1 rs fun ds => match ds with
  | [.int i, .int j] => (-(2 ^ 62) ≤ i ∧ i < 2 ^ 62 ∧ -(2 ^ 62) ≤ j ∧ j < 2 ^ 62) ∧ Q (rangeD i (j - i).toNat) finId E1
  | _ => False
def iR3 (dr : DR) : DI := fun E Q => dr E fun rs E1 => vws E1 rs fun ds => match ds with
  | [.int i, .int j, .int c] => ∃ n, RgC i j c n ∧ Q (rangeC i c n) finId E1
  | _ => False
def iEL (da : DE) : DI := fun E Q => da E fun r E1 => walkOf E1 r fun d fin E2 => match d with
  | .lst ds => Q (enumD ds) fin E2
  | _ => False
section
variable {X : Cx} {kt : Bool} {K : PySem.W.Frag} {S H S' H' S1 H1 S2 H2 S0 H0 : Hp} {σ σ1 σ2 σ0 : L2.St} {E E' E1 E2 E0 : List Cell} {v : V} {r : R} {i : Nat} {d : D} {a b c e tg : Expr} {da : DE} {dr : DR} {pos p : Pos}
theorem VwL.head {vs : List V} {d : D} {ds : List D} (h : VwL kt K S H vs (d :: ds)) : ∃ v r, vs = v :: r ∧ Vw kt K S H v d ∧ VwL kt K S H r ds := by
  cases h with
  | cons a b => exact ⟨_, _, rfl, a, b⟩
theorem so_list {A : Addr → Prop} {q : Addr} {ds : List D} (h : Kept kt K S1 H1 A (.ref q) (.lst ds)) : SrcOk kt K S1 H1 A (Itl K q) ds := by
  have at_ : ∀ S H σ E, SI kt K S H σ E → Fr S1 H1 A S H (ownA σ E) → ∃ vs, H q = some (.lst vs) ∧ RpL kt K S vs ds := fun S H σ E I F => by
    obtain ⟨p, vs, e, h1, h2⟩ := (h.at F).vw.lst I.ex
    cases e
    exact ⟨vs, h1, h2⟩
  refine ⟨fun S H σ E I F i hi => ?_, fun S H σ E I F => ?_, fun S H σ E I F i x H' hi hy => ?_⟩
  · obtain ⟨vs, h1, h2⟩ := at_ S H σ E I F
    obtain ⟨v, h3, _⟩ := h2.get (List.getElem?_eq_getElem hi)
    exact ⟨vs, v, .of h1, h3⟩
  · obtain ⟨vs, h1, h2⟩ := at_ S H σ E I F
    exact ⟨vs, .of h1, by rw [h2.length]; exact Nat.le_refl _⟩
  · obtain ⟨vs, h1, h2⟩ := at_ S H σ E I F
    obtain ⟨rfl, hv⟩ := hy
    obtain ⟨v, h3, h4⟩ := h2.get (List.getElem?_eq_getElem hi)
    have := hv vs (.of h1)
    rw [h3] at this; cases this
    exact ⟨S, ds[i], List.getElem?_eq_getElem hi, .refl I, h4⟩
theorem so_tup {A : Addr → Prop} {q : Addr} {ds : List D} (h : Kept kt K S1 H1 A (.ref q) (.tup ds)) : SrcOk kt K S1 H1 A (Itt K q) ds := by
  have at_ : ∀ S H σ E, SI kt K S H σ E → Fr S1 H1 A S H (ownA σ E) → ∃ vs, SqT K H q vs ∧ RpL kt K S vs ds := fun S H σ E I F => by
    obtain ⟨p, vs, e, h1, h2⟩ := (h.at F).vw.tup I.ex
    cases e
    exact ⟨vs, h1, h2⟩
  refine ⟨fun S H σ E I F i hi => ?_, fun S H σ E I F => ?_, fun S H σ E I F i x H' hi hy => ?_⟩
  · obtain ⟨vs, h1, h2⟩ := at_ S H σ E I F
    obtain ⟨v, h3, _⟩ := h2.get (List.getElem?_eq_getElem hi)
    exact ⟨vs, v, h1, h3⟩
  · obtain ⟨vs, h1, h2⟩ := at_ S H σ E I F
    exact ⟨vs, h1, by rw [h2.length]; exact Nat.le_refl _⟩
  · obtain ⟨vs, h1, h2⟩ := at_ S H σ E I F
    obtain ⟨rfl, hv⟩ := hy
    obtain ⟨v, h3, h4⟩ := h2.get (List.getElem?_eq_getElem hi)
    have := hv vs h1
    rw [h3] at this; cases this
    exact ⟨S, ds[i], List.getElem?_eq_getElem hi, .refl I, h4⟩
theorem so_scr {A : Addr → Prop} {q : Addr} {ns : List Int} (h : Kept kt K S1 H1 A (.ref q) (.scr ns)) : SrcOk kt K S1 H1 A (Itl K q) (ns.map .int) := by
  have at_ : ∀ S H σ E, SI kt K S H σ E → Fr S1 H1 A S H (ownA σ E) → SqL K H q (ns.map V.int) := fun S H σ E I F => by
    obtain ⟨p, e, h1⟩ := (h.at F).vw.scr I.ex
    cases e
    exact h1
  refine ⟨fun S H σ E I F i hi => ?_, fun S H σ E I F => ?_, fun S H σ E I F i x H' hi hy => ?_⟩
  · rw [List.length_map] at hi
    exact ⟨_, .int ns[i], at_ S H σ E I F, by rw [List.getElem?_map, List.getElem?_eq_getElem hi]; rfl⟩
  · exact ⟨_, at_ S H σ E I F, by rw [List.length_map, List.length_map]; exact Nat.le_refl _⟩
  · obtain ⟨rfl, hv⟩ := hy
    rw [List.length_map] at hi
    have := hv _ (at_ S _ σ E I F)
    rw [List.getElem?_map, List.getElem?_eq_getElem hi] at this
    cases this
    exact ⟨S, .int ns[i], by rw [List.getElem?_map, List.getElem?_eq_getElem hi]; rfl, .refl I, .int _⟩
theorem so_fn {A : Addr → Prop} {J : It} {n : Nat} {f : Nat → V} {g : Nat → D} (w : Walk J n (fun _ => True) (YFn f)) (hfg : ∀ S i, Rp kt K S (f i) (g i)) : SrcOk kt K S1 H1 A J ((List.range n).map g) := by
  refine ⟨fun S H σ E I F i hi => ?_, fun S H σ E I F => ?_, fun S H σ E I F i x H' hi hy => ?_⟩
  · rw [List.length_map, List.length_range] at hi
    exact w.goes i H hi trivial
  · rw [List.length_map, List.length_range]
    exact w.stops H trivial
  · rw [List.length_map, List.length_range] at hi
    obtain ⟨rfl, rfl⟩ := w.yields i H x H' hi trivial hy
    exact ⟨S, g i, by rw [List.getElem?_map, List.getElem?_range hi]; rfl, .refl I, hfg S i⟩
theorem so_rD {A : Addr → Prop} {J : It} {n : Nat} {lo : Int} {f : Nat → V} (w : Walk J n (fun _ => True) (YFn f)) (hfg : ∀ S (i : Nat), Rp kt K S (f i) (.int (lo + (i : Nat)))) : SrcOk kt K S1 H1 A J (rangeD lo n) := by unfold rangeD; exact so_fn w hfg
theorem so_rC {A : Addr → Prop} {J : It} {n : Nat} {lo c : Int} {f : Nat → V} (w : Walk J n (fun _ => True) (YFn f)) (hfg : ∀ S (i : Nat), Rp kt K S (f i) (.int (lo + (i : Nat) * c))) : SrcOk kt K S1 H1 A J (rangeC lo c n) := by unfold rangeC; exact so_fn w hfg
theorem so_str {A : Addr → Prop} {z : Str} : SrcOk kt K S1 H1 A (Its z) (signsD z) := by
  have hl : (signsD z).length = z.cps.size := by unfold signsD; rw [List.length_map, Array.length_toList]
  refine ⟨fun S H σ E I F i hi => ?_, fun S H σ E I F => ?_, fun S H σ E I F i x H' hi hy => ?_⟩
  · rw [hl] at hi; exact hi
  · rw [hl]; exact Nat.le_refl _
  · obtain ⟨rfl, c, hc, rfl⟩ := hy
    refine ⟨S, .str ⟨#[c]⟩, ?_, .refl I, .str _⟩
    unfold signsD
    rw [List.getElem?_map, Array.getElem?_toList, hc]
    rfl
theorem si_list (ha : SE X kt a da) : SI_ X kt tg a (iL da) := by
  obtain ⟨t, q, l⟩ := ha.ex
  refine ⟨_, pi_list q, fun S H σ E Q R I h k => l S H σ E _ _ I h fun S1 H1 E1 v r e1 q1 n1 h1 => ?_⟩
  obtain ⟨S2, E2, fin, d, pr, kp, h2⟩ := walk_ok I e1 q1 n1 h1
  cases d with
  | lst ds =>
    obtain ⟨p, vs, rfl, hp, _⟩ := kp.vw.lst pr.si.ex
    exact ⟨p, rfl, ⟨vs, .of hp⟩, k _ _ _ _ _ _ pr (so_list kp) h2⟩
  | scr ns =>
    obtain ⟨p, rfl, hp⟩ := kp.vw.scr pr.si.ex
    exact ⟨p, rfl, ⟨_, hp⟩, k _ _ _ _ _ _ pr (so_scr kp) h2⟩
  | _ => exact (show False from h2).elim
theorem si_tup (ha : SE X kt a da) : SI_ X kt tg a (iT da) := by
  obtain ⟨t, q, l⟩ := ha.ex
  refine ⟨_, pi_tup q, fun S H σ E Q R I h k => l S H σ E _ _ I h fun S1 H1 E1 v r e1 q1 n1 h1 => ?_⟩
  obtain ⟨S2, E2, fin, d, pr, kp, h2⟩ := walk_ok I e1 q1 n1 h1
  cases d with
  | tup ds =>
    obtain ⟨p, vs, rfl, hp, _⟩ := kp.vw.tup pr.si.ex
    exact ⟨p, rfl, ⟨vs, hp⟩, k _ _ _ _ _ _ pr (so_tup kp) h2⟩
  | _ => exact (show False from h2).elim
theorem si_str (ha : SE X kt a da) : SI_ X kt tg a (iS da) := by
  obtain ⟨t, q, l⟩ := ha.ex
  refine ⟨_, pi_str q, fun S H σ E Q R I h k => l S H σ E _ _ I h fun S1 H1 E1 v r e1 q1 n1 h1 => ?_⟩
  obtain ⟨d, w, h2⟩ := vw_ok e1.si q1 h1
  cases d with
  | str z => exact ⟨z, w.str, k _ _ _ _ _ _ (.id I e1) so_str h2⟩
  | _ => exact (show False from h2).elim
theorem si_range1 (hg : Gl X "range") (hm : X.mg "range" = none) (ha : SR X kt [a] dr) (hs : starEach [a] X.env = [(false, eval a X.env)] := by rfl) : SI_ X kt tg (.Call (.Name "range" p) [a] [] pos) (iR1 dr) := by
  obtain ⟨t, q, l⟩ := ha.ex
  refine ⟨_, pi_range1 hg hm q hs, fun S H σ E Q R I h k => l S H σ E _ _ I h fun S1 H1 E1 vs rs e1 q1 n1 h1 => ?_⟩
  obtain ⟨ds, ws, h2⟩ := vws_ok e1.si q1 h1
  match ds, ws, h2 with
  | [.int j], ws, h2 =>
    obtain ⟨v, rfl, w⟩ := ws.one
    cases w.int
    refine ⟨j, rfl, h2.1.1, h2.1.2, k _ _ _ _ _ _ (.id I e1) (so_rD walk_range fun _ _ => .int _) h2.2⟩
theorem si_range2 (hg : Gl X "range") (hm : X.mg "range" = none) (ha : SR X kt [a, b] dr) (hs : starEach [a, b] X.env = [(false, eval a X.env), (false, eval b X.env)] := by rfl) (hs2 : starEach [b] X.env = [(false, eval b X.env)] := by rfl) : SI_ X kt tg (.Call (.Name "range" p) [a, b] [] pos) (iR2 dr) := by
  obtain ⟨t, q, l⟩ := ha.ex
  refine ⟨_, pi_range2 hg hm q hs hs2, fun S H σ E Q R I h k => l S H σ E _ _ I h fun S1 H1 E1 vs rs e1 q1 n1 h1 => ?_⟩
  obtain ⟨ds, ws, h2⟩ := vws_ok e1.si q1 h1
  match ds, ws, h2 with
  | [.int i, .int j], ws, h2 =>
    obtain ⟨v, w', rfl, w, w2⟩ := ws.two
    cases w.int
    cases w2.int
    exact ⟨i, j, rfl, h2.1, k _ _ _ _ _ _ (.id I e1) (so_rD walk_range fun _ _ => .int _) h2.2⟩
theorem si_range3 (hg : Gl X "range") (hm : X.mg "range" = none) (ha : SR X kt [a, b, c] dr) (hs : starEach [a, b, c] X.env = (false, eval a X.env) :: starEach [b, c] X.env := by rfl) (hpl : (backTo pos (starEach [b, c] X.env)).any (·.1) = false := by rfl) : SI_ X kt tg (.Call (.Name "range" p) [a, b, c] [] pos) (iR3 dr) := by
  obtain ⟨t, q, l⟩ := ha.ex
  refine ⟨_, pi_range3 hg hm q hs hpl, fun S H σ E Q R I h k => l S H σ E _ _ I h fun S1 H1 E1 vs rs e1 q1 n1 h1 => ?_⟩
  obtain ⟨ds, ws, h2⟩ := vws_ok e1.si q1 h1
  have g : ∃ i j c, ds = [.int i, .int j, .int c] ∧ ∃ n, RgC i j c n ∧ Q (rangeC i c n) finId E1 := by
    match ds, h2 with
    | [.int i, .int j, .int c], h2 => exact ⟨i, j, c, rfl, h2⟩
  obtain ⟨i, j, c, rfl, n, h3, h4⟩ := g
  obtain ⟨v1, vr, rfl, w1, wr⟩ := ws.head
  obtain ⟨v2, v3, rfl, w2, w3⟩ := wr.two
  cases w1.int
  cases w2.int
  cases w3.int
  exact ⟨i, j, c, n, rfl, h3, k _ _ _ _ _ _ (.id I e1) (so_rC walk_rangeC fun _ _ => .int _) h4⟩
/-- a new pair of two data -/
theorem ev_pair {T : Addr} {x y : V} {d1 d2 : D} (I : SI kt K S H σ E) (hT : H T = none) (r1 : Rp kt K S x d1) (r2 : Rp kt K S y d2) : ∃ S', Ev kt K S H σ E S' (upd H T (.tup [x, y])) E ∧ Rp kt K S' (.ref T) (.tup [d1, d2]) := by
  have e1 := (Ev.refl I).alloc (o := .tup [x, y]) hT
  have e2 := e1.stay (o := .tup [x, y]) upd_same (I.none hT) (fun z => ownA_alive I z hT) hT
  have le : Same S (upd S T (.tup [x, y])) := fun b u z => by rw [upd_ne (ne_of_none z (I.none hT))]; exact z
  exact ⟨_, e2, .tup (.inl upd_same) (.cons (r1.mono (le_of le)) (.cons (r2.mono (le_of le)) .nil))⟩
theorem enumD_get {ds : List D} {i : Nat} {d : D} (h : ds[i]? = some d) : (enumD ds)[i]? = some (.tup [.int (i : Nat), d]) := by
  unfold enumD
  rw [List.getElem?_map, List.getElem?_zipIdx, h]
  simp
theorem enumD_len (ds : List D) : (enumD ds).length = ds.length := by unfold enumD; rw [List.length_map, List.length_zipIdx]
theorem so_enum {A : Addr → Prop} {q : Addr} {ds : List D} (h : Kept kt K S1 H1 A (.ref q) (.lst ds)) : SrcOk kt K S1 H1 A (Ite K q) (enumD ds) := by
  have at_ : ∀ S H σ E, SI kt K S H σ E → Fr S1 H1 A S H (ownA σ E) → ∃ vs, H q = some (.lst vs) ∧ RpL kt K S vs ds := fun S H σ E I F => by
    obtain ⟨p, vs, e, h1, h2⟩ := (h.at F).vw.lst I.ex
    cases e
    exact ⟨vs, h1, h2⟩
  refine ⟨fun S H σ E I F i hi => ?_, fun S H σ E I F => ?_, fun S H σ E I F i x H' hi hy => ?_⟩
  · rw [enumD_len] at hi
    obtain ⟨vs, h1, h2⟩ := at_ S H σ E I F
    obtain ⟨v, h3, _⟩ := h2.get (List.getElem?_eq_getElem hi)
    exact ⟨vs, v, .of h1, h3⟩
  · obtain ⟨vs, h1, h2⟩ := at_ S H σ E I F
    exact ⟨vs, .of h1, by rw [enumD_len, h2.length]; exact Nat.le_refl _⟩
  · rw [enumD_len] at hi
    obtain ⟨vs, h1, h2⟩ := at_ S H σ E I F
    obtain ⟨T, y, rfl, hT, rfl, hv⟩ := hy
    obtain ⟨v, h3, h4⟩ := h2.get (List.getElem?_eq_getElem hi)
    have := hv vs (.of h1)
    rw [h3] at this; cases this
    obtain ⟨S', e, r⟩ := ev_pair I hT (.int (i : Nat)) h4
    exact ⟨S', _, enumD_get (List.getElem?_eq_getElem hi), e, r⟩
theorem si_enumL {elts : List Expr} {kk : Nat} {tpos : Pos} (hg : Gl X "enumerate") (hm : X.mg "enumerate" = none) (ha : SE X kt a da) (hs : starEach [a] X.env = [(false, eval a X.env)] := by rfl) (hs1 : starEach [a] X.env = (false, eval a X.env) :: starEach [] X.env := by rfl) : SI_ X kt (.Tuple elts kk tpos) (.Call (.Name "enumerate" p) [a] [] pos) (iEL da) := by
  obtain ⟨t, q, l⟩ := ha.ex
  refine ⟨_, pi_enum hg hm (pa_cons q pa_nil hs1) hs, fun S H σ E Q R I h k => l S H σ E _ _ I h fun S1 H1 E1 v r e1 q1 n1 h1 => ?_⟩
  obtain ⟨S2, E2, fin, d, pr, kp, h2⟩ := walk_ok I e1 q1 n1 h1
  cases d with
  | lst ds =>
    obtain ⟨p, vs, rfl, hp, _⟩ := kp.vw.lst pr.si.ex
    exact ⟨p, vs, rfl, .of hp, k _ _ _ _ _ _ pr (so_enum kp) h2⟩
  | _ => exact (show False from h2).elim
end
end BD
set_option Elab.async false
set_option linter.all false
set_option maxRecDepth 100000
set_option maxHeartbeats 2000000
/-! BD: comprehensions. -/
namespace BD
open PySem PySem.Spec PyProof.Rows L2
/-- the canonical readings -/
def tOfE (kt : Bool) (K : PySem.W.Frag) (d : DE) : TE := fun σ H Q => ∃ S E Qd, SI kt K S H σ E ∧ d E Qd ∧ ∀ S' H' E' v r, Ev kt K S H σ E S' H' E' → RepR kt K S' H' σ E' v r → New H v r → Qd r E' → Q v H'
def tOfT (kt : Bool) (K : PySem.W.Frag) (d : DT) : TT := fun σ H Q => ∃ S E Qd, SI kt K S H σ E ∧ d E Qd ∧ ∀ S' H' E' b, Ev kt K S H σ E S' H' E' → Qd b E' → Q b H'
def tOfI (kt : Bool) (K : PySem.W.Frag) (d : DI) : TI := fun σ H R => ∃ S E Qd, SI kt K S H σ E ∧ d E Qd ∧ ∀ S1 H1 E1 J items fin, Prot kt K S H σ E S1 H1 E1 fin → SrcOk kt K S1 H1 (ownA σ E1) J items → Qd items fin E1 → R J H1
/-- a comprehension's target: a name, a tuple of names -/
inductive CT where
  | one (i : Nat) | tup (is : List Nat)
def gNames : List Nat → TGs
  | [] => gNil
  | i :: r => gCons (gName i) (gNames r)
def gCT (K : PySem.W.Frag) : CT → TG
  | .one i => gName i
  | .tup is => gTup K is.length (gNames is)
def CT.slots : CT → List Nat
  | .one i => [i]
  | .tup is => is
def puts : List Nat → List D → List Cell → List Cell
  | i :: is, d :: ds, E => puts is ds (put E i (.val d))
  | _, _, E => E
def putCT (ct : CT) (d : D) (E : List Cell) (k : List Cell → Prop) : Prop := match ct with
  | .one i => k (put E i (.val d))
  | .tup is => match d with
    | .tup ds => ds.length = is.length ∧ k (puts is ds E)
    | _ => False
def wipeE (E : List Cell) : List Nat → List Cell
  | [] => E
  | v :: vs => put (wipeE E vs) v .un
def restore (E0 E : List Cell) : List Nat → List Cell
  | [] => E
  | v :: vs => put (restore E0 E vs) v (nth E0 v)
def lcL (ct : CT) (tt : DT) (de : DV) (vs : List Nat) (done : List D → List Cell → Prop) : List D → List D → List Cell → Prop
  | [], acc, E => done acc E
  | x :: r, acc, E => putCT ct x E fun E1 => tt E1 fun b E2 => if b = true then de E2 fun y E3 => acc.length < sizeLine ∧ lcL ct tt de vs done r (acc ++ [y]) (wipeE E3 vs) else lcL ct tt de vs done r acc (wipeE E2 vs)
def dLc (src : DI) (ct : CT) (vs : List Nat) (tt : DT) (de : DE) : DE := fun E Q => src E fun items fin E1 => lcL ct tt (dFz de) vs (fun acc E2 => fin (restore E1 E2 vs) fun E3 => Q (.fr (.lst acc)) E3) items [] (wipeE E1 vs)
def dYes : DT := fun E Q => Q true E
structure STs (X : Cx) (kt : Bool) (ifs : List Expr) (d : DT) : Prop where
  ex : ∃ t, PTs X ifs t ∧ LkT kt X.K t d
section
variable {X : Cx} {kt : Bool} {K : PySem.W.Frag} {S H S' H' S1 H1 S2 H2 S0 H0 : Hp} {σ σ1 σ2 σ0 : L2.St} {E E' E1 E2 E0 : List Cell} {v : V} {r : R} {i : Nat} {d : D} {e : Expr} {de : DE} {dt : DT} {di : DI} {tg iter : Expr}
theorem SE.canon (h : SE X kt e de) : PE X e (tOfE kt X.K de) := by
  obtain ⟨t, p, l⟩ := h.ex
  exact ⟨fun pins s σ H Q I ⟨S, E, Qd, si, hd, k⟩ => p.run pins s σ H Q I (l S H σ E Qd Q si hd k)⟩
theorem STs.canon {ifs : List Expr} (h : STs X kt ifs dt) : PTs X ifs (tOfT kt X.K dt) := by
  obtain ⟨t, p, l⟩ := h.ex
  exact ⟨fun pins s σ H Q I ⟨S, E, Qd, si, hd, k⟩ => p.run pins s σ H Q I (l S H σ E Qd Q si hd k)⟩
theorem SI_.canon (h : SI_ X kt tg iter di) : PI X tg iter (tOfI kt X.K di) := by
  obtain ⟨t, p, l⟩ := h.ex
  exact ⟨fun pins s σ H Q I ⟨S, E, Qd, si, hd, k⟩ => p.run pins s σ H Q I (l S H σ E Qd Q si hd k)⟩
theorem sts_nil : STs X kt [] dYes := ⟨_, pts_nil, fun S H σ E Q Q' I h k => k S H E true (.refl I) h⟩
theorem sts_one (h : ST X kt e dt) : STs X kt [e] dt := by
  obtain ⟨t, p, l⟩ := h.ex
  exact ⟨t, pts_one p, l⟩
theorem wipeE_len : ∀ (E : List Cell) (vs : List Nat), (wipeE E vs).length = E.length
  | _, [] => rfl
  | E, v :: vs => by unfold wipeE; rw [put_len, wipeE_len E vs]
theorem nth_wipe : ∀ {E : List Cell} {vs : List Nat} {j : Nat}, nth (wipeE E vs) j = if j ∈ vs then .un else nth E j
  | E, [], j => by simp [wipeE]
  | E, v :: vs, j => by
    unfold wipeE
    rw [nth_put2, wipeE_len]
    by_cases h : j = v
    · subst h
      by_cases hl : j < E.length
      · rw [if_pos ⟨rfl, hl⟩, if_pos List.mem_cons_self]
      · rw [if_neg fun z => hl z.2, if_pos List.mem_cons_self, nth_wipe]
        split
        · rfl
        · exact nth_out (by omega)
    · rw [if_neg fun z => h z.1, nth_wipe]
      by_cases hm : j ∈ vs
      · rw [if_pos hm, if_pos (List.mem_cons_of_mem _ hm)]
      · rw [if_neg hm, if_neg (fun z => (List.mem_cons.mp z).elim h hm)]
theorem restore_len : ∀ (E0 E : List Cell) (vs : List Nat), (restore E0 E vs).length = E.length
  | _, _, [] => rfl
  | E0, E, v :: vs => by unfold restore; rw [put_len, restore_len E0 E vs]
theorem nth_restore : ∀ {E0 E : List Cell} {vs : List Nat} {j : Nat}, E0.length = E.length → nth (restore E0 E vs) j = if j ∈ vs then nth E0 j else nth E j
  | E0, E, [], j, _ => by simp [restore]
  | E0, E, v :: vs, j, hl => by
    unfold restore
    rw [nth_put2, restore_len]
    by_cases h : j = v
    · subst h
      by_cases h2 : j < E.length
      · rw [if_pos ⟨rfl, h2⟩, if_pos List.mem_cons_self]
      · rw [if_neg fun z => h2 z.2, if_pos List.mem_cons_self, nth_restore hl, nth_out (E := E0) (by omega), nth_out (E := E) (by omega)]
        split <;> rfl
    · rw [if_neg fun z => h z.1, nth_restore hl]
      by_cases hm : j ∈ vs
      · rw [if_pos hm, if_pos (List.mem_cons_of_mem _ hm)]
      · rw [if_neg hm, if_neg (fun z => (List.mem_cons.mp z).elim h hm)]
theorem get_wipe : ∀ {σ : L2.St} {vs : List Nat} {j : Nat}, j ∉ vs → (wipe σ vs)[j]? = σ[j]? := fun h => wipe_out h
/-- the block's slots forgotten -/
theorem SI.wipe (I : SI kt K S H σ E) (vs : List Nat) : SI kt K S H (L2.wipe σ vs) (wipeE E vs) := by
  have old : ∀ a, ownA (L2.wipe σ vs) (wipeE E vs) a → ownA σ E a := fun a ⟨j, x, hj, hσ⟩ => by
    rw [nth_wipe] at hj
    by_cases hm : j ∈ vs
    · rw [if_pos hm] at hj; rcases hj with z | z <;> cases z
    · rw [if_neg hm] at hj
      rw [get_wipe hm] at hσ
      exact ⟨j, x, hj, hσ⟩
  refine ⟨I.ex, by rw [wipe_length, wipeE_len]; exact I.len, fun j x hj => ?_, fun j x hj => ?_, fun j x hj => ?_, fun j k x y p hj hk h1 h2 => ?_⟩
  · rw [nth_wipe] at hj
    by_cases hm : j ∈ vs
    · rw [if_pos hm] at hj; cases hj
    · rw [if_neg hm] at hj; rw [get_wipe hm]; exact I.val j x hj
  · rw [nth_wipe] at hj
    by_cases hm : j ∈ vs
    · rw [if_pos hm] at hj; cases hj
    · rw [if_neg hm] at hj; rw [get_wipe hm]
      obtain ⟨w, h1, h2⟩ := I.ro j x hj
      exact ⟨w, h1, h2.mono .refl (fun _ _ h _ => h) (fun p _ _ z => old p z)⟩
  · rw [nth_wipe] at hj
    by_cases hm : j ∈ vs
    · rw [if_pos hm] at hj; rcases hj with z | z <;> cases z
    · rw [if_neg hm] at hj; rw [get_wipe hm]; exact I.own j x hj
  · rw [nth_wipe] at hj hk
    by_cases hm : j ∈ vs
    · rw [if_pos hm] at hj; rcases hj with z | z <;> cases z
    · by_cases hn : k ∈ vs
      · rw [if_pos hn] at hk; rcases hk with z | z <;> cases z
      · rw [if_neg hm] at hj; rw [if_neg hn] at hk
        rw [get_wipe hm] at h1; rw [get_wipe hn] at h2
        exact I.dis j k x y p hj hk h1 h2
theorem ownA_wipe {vs : List Nat} {a : Addr} (h : ownA (L2.wipe σ vs) (wipeE E vs) a) : ∃ j x, j ∉ vs ∧ (nth E j = .own x ∨ nth E j = .bor x) ∧ σ[j]? = some (some (.ref a)) := by
  obtain ⟨j, x, hj, hσ⟩ := h
  rw [nth_wipe] at hj
  by_cases hm : j ∈ vs
  · rw [if_pos hm] at hj; rcases hj with z | z <;> cases z
  · rw [if_neg hm] at hj
    rw [get_wipe hm] at hσ
    exact ⟨j, x, hm, hj, hσ⟩
/-- one free slot gets data -/
theorem SI.put1 (I : SI kt K S H σ E) {w : V} (hw : Rp kt K S w d) : SI kt K S H (σ.set i (some w)) (put E i (.val d)) := by
  have old : ∀ a, ownA (σ.set i (some w)) (put E i (.val d)) a → ownA σ E a := fun a ⟨j, x, hj, hσ⟩ => by
    rw [nth_put2] at hj
    rw [get_set, I.len] at hσ
    by_cases h : j = i ∧ i < E.length
    · rw [if_pos h] at hj; rcases hj with z | z <;> cases z
    · rw [if_neg h] at hj hσ; exact ⟨j, x, hj, hσ⟩
  refine ⟨I.ex, by rw [List.length_set, put_len]; exact I.len, fun j x hj => ?_, fun j x hj => ?_, fun j x hj => ?_, fun j k x y p hj hk h1 h2 => ?_⟩
  · rw [nth_put2] at hj; rw [get_set, I.len]
    by_cases h : j = i ∧ i < E.length
    · rw [if_pos h] at hj ⊢; cases hj; exact ⟨w, rfl, hw⟩
    · rw [if_neg h] at hj ⊢; exact I.val j x hj
  · rw [nth_put2] at hj; rw [get_set, I.len]
    by_cases h : j = i ∧ i < E.length
    · rw [if_pos h] at hj; cases hj
    · rw [if_neg h] at hj ⊢
      obtain ⟨u, h1, h2⟩ := I.ro j x hj
      exact ⟨u, h1, h2.mono .refl (fun _ _ h _ => h) (fun p _ _ z => old p z)⟩
  · rw [nth_put2] at hj; rw [get_set, I.len]
    by_cases h : j = i ∧ i < E.length
    · rw [if_pos h] at hj; rcases hj with z | z <;> cases z
    · rw [if_neg h] at hj ⊢; exact I.own j x hj
  · rw [nth_put2] at hj hk; rw [get_set, I.len] at h1 h2
    by_cases h : j = i ∧ i < E.length
    · rw [if_pos h] at hj; rcases hj with z | z <;> cases z
    · by_cases h' : k = i ∧ i < E.length
      · rw [if_pos h'] at hk; rcases hk with z | z <;> cases z
      · rw [if_neg h] at hj h1; rw [if_neg h'] at hk h2
        exact I.dis j k x y p hj hk h1 h2
/-- σ2, E2 are σ, E with some slots of vs given data -/
structure Filled (kt : Bool) (K : PySem.W.Frag) (S H : Hp) (vs : List Nat) (σ : L2.St) (E : List Cell) (σ2 : L2.St) (E2 : List Cell) : Prop where
  si : SI kt K S H σ2 E2
  out : ∀ j, j ∉ vs → σ2[j]? = σ[j]? ∧ nth E2 j = nth E j
  ins : ∀ j, j ∈ vs → nth E2 j = nth E j ∨ ∃ x, nth E2 j = .val x
  wip : L2.wipe σ2 vs = L2.wipe σ vs
  len : E2.length = E.length
theorem wipe_set {σ : L2.St} {x : Option V} : ∀ {vs : List Nat}, i ∈ vs → L2.wipe (σ.set i x) vs = L2.wipe σ vs := fun {vs} hi => by
  apply List.ext_getElem?
  intro j
  have hw : ∀ (τ : L2.St) (ws : List Nat), j ∈ ws → j < τ.length → (L2.wipe τ ws)[j]? = some none := by
    intro τ ws
    induction ws with
    | nil => intro h; cases h
    | cons w ws ih =>
      intro h hl
      unfold L2.wipe
      rw [get_set, wipe_length]
      by_cases hjw : j = w
      · subst hjw; rw [if_pos ⟨rfl, hl⟩]
      · rw [if_neg (fun z => hjw z.1)]
        exact ih ((List.mem_cons.mp h).resolve_left hjw) hl
  by_cases hj : j ∈ vs
  · by_cases hl : j < σ.length
    · rw [hw _ _ hj (by rw [List.length_set]; exact hl), hw _ _ hj hl]
    · rw [List.getElem?_eq_none (by rw [wipe_length, List.length_set]; omega), List.getElem?_eq_none (by rw [wipe_length]; omega)]
  · rw [get_wipe hj, get_wipe hj, List.getElem?_set_ne (fun z => hj (by rw [← z]; exact hi))]
theorem Filled.refl {vs : List Nat} (I : SI kt K S H σ E) : Filled kt K S H vs σ E σ E := ⟨I, fun _ _ => ⟨rfl, rfl⟩, fun _ _ => .inl rfl, rfl, rfl⟩
theorem Filled.put {vs : List Nat} {w : V} (f : Filled kt K S H vs σ E σ2 E2) (hi : i ∈ vs) (hw : Rp kt K S w d) : Filled kt K S H vs σ E (σ2.set i (some w)) (BD.put E2 i (.val d)) := by
  refine ⟨f.si.put1 hw, fun j hj => ?_, fun j hj => ?_, (wipe_set hi).trans f.wip, by rw [put_len]; exact f.len⟩
  · have hji : j ≠ i := fun z => hj (by rw [z]; exact hi)
    rw [List.getElem?_set_ne (Ne.symm hji), nth_put_ne hji]
    exact f.out j hj
  · rw [nth_put2]
    by_cases h : j = i ∧ i < E2.length
    · rw [if_pos h]; exact .inr ⟨d, rfl⟩
    · rw [if_neg h]; exact f.ins j hj
theorem gNames_ok {vs : List Nat} {Q : L2.St → Hp → Prop} : ∀ (is : List Nat) (ws : List V) (ds : List D) (σ2 : L2.St) (E2 : List Cell), (∀ j ∈ is, j ∈ vs) → Filled kt K S H vs σ E σ2 E2 → RpL kt K S ws ds → ds.length = is.length →
    (∀ σ3, Filled kt K S H vs σ E σ3 (puts is ds E2) → Q σ3 H) → gNames is ws σ2 H Q
  | [], _, _, σ2, E2, _, f, .nil, _, k => ⟨rfl, k σ2 f⟩
  | [], _, _, _, _, _, _, .cons _ _, h, _ => nomatch h
  | _ :: _, _, _, _, _, _, _, .nil, h, _ => nomatch h
  | i :: is, _, _, σ2, E2, hm, f, .cons r1 rr, h, k =>
    ⟨_, _, rfl, gNames_ok is _ _ _ _ (fun j hj => hm j (List.mem_cons_of_mem _ hj)) (f.put (hm i List.mem_cons_self) r1) rr (Nat.succ.inj h) k⟩
theorem gCT_ok {vs : List Nat} {ct : CT} {w : V} {Q : L2.St → Hp → Prop} {k : List Cell → Prop} (hm : ∀ j ∈ ct.slots, j ∈ vs) (I : SI kt K S H σ E) (hw : Rp kt K S w d) (h : putCT ct d E k)
    (hk : ∀ σ2 E2, Filled kt K S H vs σ E σ2 E2 → k E2 → Q σ2 H) : gCT K ct w σ H Q := by
  cases ct with
  | one i => exact hk _ _ ((Filled.refl I).put (hm i List.mem_cons_self) hw) h
  | tup is =>
    cases d with
    | tup ds =>
      obtain ⟨h1, h2⟩ := (show ds.length = is.length ∧ k (puts is ds E) from h)
      cases hw with
      | tup ht hr => exact ⟨_, _, rfl, (ht.mono I.ex).sqt, hr.length.trans h1, gNames_ok is _ _ σ E hm (.refl I) hr h1 fun σ3 f => hk _ _ f h2⟩
    | _ => exact (show False from h).elim
end
end BD
set_option Elab.async false
set_option linter.all false
set_option maxRecDepth 100000
set_option maxHeartbeats 2000000
/-! BD: the rule for comprehensions. -/
namespace BD
open PySem PySem.Spec PyProof.Rows L2
def tOfV (kt : Bool) (K : PySem.W.Frag) (d : DV) : TE := fun σ H Q => ∃ S E Qd, SI kt K S H σ E ∧ d E Qd ∧ ∀ S' H' E' v x, Ev kt K S H σ E S' H' E' → Rp kt K S' v x → Qd x E' → Q v H'
section
variable {X : Cx} {kt : Bool} {K : PySem.W.Frag} {S H S' H' S1 H1 S2 H2 S0 H0 S3 H3 : Hp} {σ σ1 σ2 σ0 : L2.St} {E E' E1 E2 E0 E3 : List Cell} {v : V} {r : R} {i : Nat} {d : D} {e : Expr} {de : DE} {dv : DV} {dt : DT} {di : DI} {tg iter : Expr} {pos p : Pos}
theorem SV.canon (h : SV X kt e dv) : PE X e (tOfV kt X.K dv) := by
  obtain ⟨t, p, l⟩ := h.ex
  exact ⟨fun pins s σ H Q I ⟨S, E, Qd, si, hd, k⟩ => p.run pins s σ H Q I (l S H σ E Qd Q si hd k)⟩
theorem Fr.weak {A A' A2 : Addr → Prop} (F : Fr S H A S1 H1 A2) (h : ∀ a, A a → A' a) : Fr S H A' S1 H1 A2 := ⟨F.ex, fun a o h1 h2 => F.keep a o h1 fun z => h2 (h a z), fun a h1 h2 h3 => F.free a h1 h2 fun z => h3 (h a z), fun a z => (F.own a z).elim (fun y => .inl (h a y)) .inr, F.alive⟩
theorem Fr.less {A A2 A3 : Addr → Prop} (F : Fr S H A S1 H1 A2) (h : ∀ a, A3 a → A2 a) : Fr S H A S1 H1 A3 := ⟨F.ex, F.keep, F.free, fun a z => F.own a (h a z), F.alive⟩
theorem Fr.updNew {A A2 : Addr → Prop} {q : Addr} {o : HO} (F : Fr S H A S1 H1 A2) (h : H q = none) : Fr S H A S1 (upd H1 q o) A2 := ⟨F.ex, fun a u h1 h2 => by
    rw [upd_ne (ne_of_none h1 h)]; exact F.keep a u h1 h2, F.free, F.own, fun a ha => by
    by_cases z : a = q
    · subst z; rw [upd_same]; exact fun z => nomatch z
    · rw [upd_ne z]; exact F.alive a ha⟩
theorem wipe_wipe (σ : L2.St) (vs : List Nat) : L2.wipe (L2.wipe σ vs) vs = L2.wipe σ vs := by
  have g : ∀ (ws : List Nat), (∀ j ∈ ws, j ∈ vs) → L2.wipe (L2.wipe σ ws) vs = L2.wipe σ vs := by
    intro ws
    induction ws with
    | nil => intro _; rfl
    | cons w ws ih =>
      intro h
      show L2.wipe ((L2.wipe σ ws).set w none) vs = L2.wipe σ vs
      rw [wipe_set (h w List.mem_cons_self)]
      exact ih fun j hj => h j (List.mem_cons_of_mem _ hj)
  exact g vs fun _ h => h
/-- a new container of nobody's slot is changed -/
theorem SI.updT {q : Addr} {o : HO} (I : SI kt K S H σ E) (hs : S q = Option.none) (ha : ¬ ownA σ E q) (hr : ∀ j x w, nth E j = .ro x → σ[j]? = some (some w) → w = .ref q → Rp kt K S w x) : SI kt K S (upd H q o) σ E := by
  refine ⟨fun b u z => by rw [upd_ne (ne_of_none z hs)]; exact I.ex b u z, I.len, I.val, fun j x hj => ?_, fun j x hj => ?_, I.dis⟩
  · obtain ⟨w, h1, h2⟩ := I.ro j x hj
    refine ⟨w, h1, ?_⟩
    by_cases hw : w = .ref q
    · exact .inl (hr j x w hj h1 hw)
    · rcases h2 with h2 | ⟨p, u, rfl, h3, h4, h5⟩
      · exact .inl h2
      · have ne : p ≠ q := fun z => hw (by rw [z])
        refine .inr ⟨p, u, rfl, ?_, h4, h5⟩
        rcases h3 with h3 | ⟨⟨y, h3⟩, h6⟩
        · exact .inl (by rw [upd_ne ne]; exact h3)
        · exact .inr ⟨⟨y, by rw [upd_ne ne]; exact h3⟩, h6⟩
  · obtain ⟨p, u, h1, h2, h3, h4⟩ := I.own j x hj
    exact ⟨p, u, h1, h2, by rw [upd_ne (fun z => ha (by rw [← z]; exact ⟨j, x, hj, h1⟩))]; exact h3, h4⟩
/-- the outer slots behind the block -/
theorem Go.restored {vs : List Nat} (I : SI kt K S1 H1 σ E1) (I3 : SI kt K S3 H3 (L2.wipe σ vs) E3) (F : Fr S1 H1 (ownA (L2.wipe σ vs) (wipeE E1 vs)) S3 H3 (ownA (L2.wipe σ vs) E3)) (c : ∀ j, CellStep (nth (wipeE E1 vs) j) (nth E3 j)) :
    Go kt K S1 H1 σ E1 S3 H3 σ (restore E1 E3 vs) ∧ ∀ j, CellStep (nth E1 j) (nth (restore E1 E3 vs) j) := by
  have hl : E1.length = E3.length := by rw [← I.len, ← I3.len, wipe_length]
  have hn : ∀ j, nth (restore E1 E3 vs) j = if j ∈ vs then nth E1 j else nth E3 j := fun j => nth_restore hl
  have cc : ∀ j, CellStep (nth E1 j) (nth (restore E1 E3 vs) j) := fun j => by
    rw [hn]
    by_cases hj : j ∈ vs
    · rw [if_pos hj]; exact .refl _
    · rw [if_neg hj]
      have := c j
      rw [nth_wipe, if_neg hj] at this
      exact this
  have nb : ∀ j x p, j ∈ vs → (nth E1 j = .own x ∨ nth E1 j = .bor x) → σ[j]? = some (some (.ref p)) → ¬ ownA (L2.wipe σ vs) (wipeE E1 vs) p := fun j x p hj hx hp z => by
    obtain ⟨k, y, hk, h1, h2⟩ := ownA_wipe z
    exact hk (by rw [I.dis k j y x p h1 hx h2 hp]; exact hj)
  have old : ∀ a, ownA σ (restore E1 E3 vs) a → (∃ j x, j ∈ vs ∧ (nth E1 j = .own x ∨ nth E1 j = .bor x) ∧ σ[j]? = some (some (.ref a))) ∨ ownA (L2.wipe σ vs) E3 a := fun a ⟨j, x, hj, hσ⟩ => by
    rw [hn] at hj
    by_cases h : j ∈ vs
    · rw [if_pos h] at hj; exact .inl ⟨j, x, h, hj, hσ⟩
    · rw [if_neg h] at hj; exact .inr ⟨j, x, hj, by rw [get_wipe h]; exact hσ⟩
  have sub : ∀ a, ownA (L2.wipe σ vs) (wipeE E1 vs) a → ownA σ E1 a := fun a z => by
    obtain ⟨k, y, hk, h1, h2⟩ := ownA_wipe z
    exact ⟨k, y, h1, h2⟩
  have b3 : ∀ j x p, (nth E3 j = .own x ∨ nth E3 j = .bor x) → j ∉ vs → σ[j]? = some (some (.ref p)) → ownA (L2.wipe σ vs) E3 p := fun j x p h1 h2 h3 => ⟨j, x, h1, by rw [get_wipe h2]; exact h3⟩
  refine ⟨⟨⟨I3.ex, by rw [restore_len]; exact I.len.trans hl, fun j x hj => ?_, fun j x hj => ?_, fun j x hj => ?_, fun j k x y q hj hk h1 h2 => ?_⟩, ⟨F.ex, fun a u h1 h2 => F.keep a u h1 fun z => h2 (sub a z), fun a h1 h2 h3 => F.free a h1 h2 fun z => h3 (sub a z), fun a ha => ?_, F.alive⟩, fun j x hj => ⟨rfl, ?_⟩, fun j x hj => ?_, fun j x hj => ⟨?_, rfl⟩, by rw [restore_len]; exact hl.symm⟩, cc⟩
  · rw [hn] at hj
    by_cases h : j ∈ vs
    · rw [if_pos h] at hj
      obtain ⟨w, h1, h2⟩ := I.val j x hj
      exact ⟨w, h1, h2.mono (le_of F.ex)⟩
    · rw [if_neg h] at hj
      obtain ⟨w, h1, h2⟩ := I3.val j x hj
      exact ⟨w, by rw [← get_wipe h]; exact h1, h2⟩
  · rw [hn] at hj
    by_cases h : j ∈ vs
    · rw [if_pos h] at hj
      obtain ⟨w, h1, h2⟩ := I.ro j x hj
      refine ⟨w, h1, ?_⟩
      rcases h2 with h2 | ⟨p, u, rfl, h3, h4, h5⟩
      · exact .inl (h2.mono (le_of F.ex))
      · have na : ¬ ownA (L2.wipe σ vs) (wipeE E1 vs) p := fun z => h5 (sub p z)
        have al : H1 p ≠ none := by rcases h3 with h3 | ⟨⟨y, h3⟩, _⟩ <;> (rw [h3]; exact fun z => nomatch z)
        refine .inr ⟨p, u, rfl, ?_, h4.mono (le_of F.ex), fun z => ?_⟩
        · rcases h3 with h3 | ⟨⟨y, h3⟩, h6⟩
          · exact .inl (F.keep p _ h3 na)
          · exact .inr ⟨⟨y, F.keep p _ h3 na⟩, h6⟩
        · rcases old p z with ⟨k, y, _, hk, hσ⟩ | y
          · exact h5 ⟨k, y, hk, hσ⟩
          · rcases F.own p y with y | y
            · exact na y
            · exact al y
    · rw [if_neg h] at hj
      obtain ⟨w, h1, h2⟩ := I3.ro j x hj
      rw [get_wipe h] at h1
      refine ⟨w, h1, ?_⟩
      have hro : nth E1 j = .ro x := by
        have := c j
        rw [hj, nth_wipe, if_neg h] at this
        exact this.ro_of
      obtain ⟨w', b1, b2⟩ := I.ro j x hro
      rw [h1] at b1; cases b1
      rcases b2 with b2 | ⟨p, u, rfl, h3, h4, h5⟩
      · exact .inl (b2.mono (le_of F.ex))
      · rcases h2 with h2 | ⟨p', u', e1, h6, h7, h8⟩
        · exact .inl h2
        · cases e1
          refine .inr ⟨p, u', rfl, h6, h7, fun z => ?_⟩
          rcases old p z with ⟨k, y, _, hk, hσ⟩ | y
          · exact h5 ⟨k, y, hk, hσ⟩
          · exact h8 y
  · rw [hn] at hj
    by_cases h : j ∈ vs
    · rw [if_pos h] at hj
      obtain ⟨p, u, h1, h2, h3, h4⟩ := I.own j x hj
      exact ⟨p, u, h1, F.free p (by rw [h3]; exact fun z => nomatch z) h2 (nb j x p h hj h1), F.keep p u h3 (nb j x p h hj h1), h4.mono (le_of F.ex)⟩
    · rw [if_neg h] at hj
      obtain ⟨p, u, h1, h2, h3, h4⟩ := I3.own j x hj
      exact ⟨p, u, by rw [← get_wipe h]; exact h1, h2, h3, h4⟩
  · rw [hn] at hj hk
    have al : ∀ m z, m ∈ vs → (nth E1 m = .own z ∨ nth E1 m = .bor z) → σ[m]? = some (some (.ref q)) → ¬ ownA (L2.wipe σ vs) E3 q := fun m z hm hz hq y => by
      rcases F.own q y with y | y
      · exact nb m z q hm hz hq y
      · obtain ⟨p, u, a1, a2, a3, a4⟩ := I.own m z hz
        rw [hq] at a1; cases a1
        rw [y] at a3; cases a3
    by_cases h : j ∈ vs
    · rw [if_pos h] at hj
      by_cases h' : k ∈ vs
      · rw [if_pos h'] at hk; exact I.dis j k x y q hj hk h1 h2
      · rw [if_neg h'] at hk; exact absurd (b3 k y q hk h' h2) (al j x h hj h1)
    · rw [if_neg h] at hj
      by_cases h' : k ∈ vs
      · rw [if_pos h'] at hk; exact absurd (b3 j x q hj h h1) (al k y h' hk h2)
      · rw [if_neg h'] at hk
        exact I3.dis j k x y q hj hk (by rw [get_wipe h]; exact h1) (by rw [get_wipe h']; exact h2)
  · rcases old a ha with ⟨j, x, _, hj, hσ⟩ | z
    · exact .inl ⟨j, x, hj, hσ⟩
    · rcases F.own a z with z | z
      · exact .inl (sub a z)
      · exact .inr z
  · have := cc j
    rw [hj] at this
    exact this
  · have := cc j
    rw [hj] at this
    exact this.bor_of
  · have := cc j
    rw [hj] at this
    exact this.ro_of
theorem restored_lc {vs : List Nat} {Q : R → List Cell → Prop} {Q' : VK} {fin : DFin} {D_ : Addr} {acc : List D} (I0 : SI kt K S H σ E) (pr : Prot kt K S H σ E S1 H1 E1 fin) (hD1 : H1 D_ = none)
    (I3 : SI kt K S3 H3 (L2.wipe σ vs) E3) (F : Fr S1 H1 (ownA (L2.wipe σ vs) (wipeE E1 vs)) S3 H3 (ownA (L2.wipe σ vs) E3)) (c : ∀ j, CellStep (nth (wipeE E1 vs) j) (nth E3 j))
    (hD : RepR kt K S3 H3 (L2.wipe σ vs) E3 (.ref D_) (.fr (.lst acc))) (hf : fin (restore E1 E3 vs) fun E4 => Q (.fr (.lst acc)) E4)
    (k : ∀ S' H' E' v r, Ev kt K S H σ E S' H' E' → RepR kt K S' H' σ E' v r → New H v r → Q r E' → Q' v H') : Q' (.ref D_) H3 := by
  obtain ⟨g, cc⟩ := Go.restored pr.si I3 F c
  obtain ⟨E4, g4, c4, h4⟩ := pr.back _ _ _ _ g _ hf
  have hD0 : H D_ = none := pr.fr.back hD1
  obtain ⟨p, o, e1, a1, a2, a3, a4⟩ := hD
  cases e1
  refine k S3 H3 E4 _ (.fr (.lst acc)) ⟨g4.si, g4.fr, c4 cc⟩ ⟨D_, o, rfl, a1, fun z => ?_, a3, a4⟩ (fun p hp => by cases hp; exact hD0) h4
  obtain ⟨j, x, hj, hσ⟩ := z
  obtain ⟨y, hy⟩ := (c4 cc j).own_of hj
  exact ownA_alive I0 ⟨j, y, hy, hσ⟩ hD0
theorem lc_lk {wi : TI} {ct : CT} {vs : List Nat} (li : LkI kt K wi di) (hct : ∀ j ∈ ct.slots, j ∈ vs) : LkE kt K (tLc wi (gCT K ct) (tOfT kt K dt) (tOfV kt K (dFz de)) vs) (dLc di ct vs dt de) := by
  intro S H σ E Q Q' I h k
  refine li S H σ E _ _ I h fun S1 H1 E1 J items fin pr so h1 => ?_
  intro D_ hD1
  have Ib := pr.si.wipe vs
  have sub : ∀ a, ownA (L2.wipe σ vs) (wipeE E1 vs) a → ownA σ E1 a := fun a z => by
    obtain ⟨j, y, hj, g1, g2⟩ := ownA_wipe z
    exact ⟨j, y, g1, g2⟩
  have cov : (wipeE E1 vs).length = E1.length := wipeE_len _ _
  let Inv3 (i : Nat) (H3 : Hp) : Prop := ∃ S3 E3 acc, SI kt K S3 H3 (L2.wipe σ vs) E3 ∧ Fr S1 H1 (ownA (L2.wipe σ vs) (wipeE E1 vs)) S3 H3 (ownA (L2.wipe σ vs) E3) ∧ (∀ j, CellStep (nth (wipeE E1 vs) j) (nth E3 j)) ∧
    RepR kt K S3 H3 (L2.wipe σ vs) E3 (.ref D_) (.fr (.lst acc)) ∧ lcL ct dt (dFz de) vs (fun acc E2 => fin (restore E1 E2 vs) fun E3 => Q (.fr (.lst acc)) E3) (items.drop i) acc E3
  refine ⟨fun i m H3 => m = items.length - i ∧ i ≤ items.length ∧ Inv3 i H3, ⟨items.length, by simp, Nat.zero_le _, S1, wipeE E1 vs, [], Ib.alloc hD1, Fr.refl.updNew hD1, fun _ => .refl _, ⟨D_, _, rfl, Ib.none hD1, fun z => ownA_alive Ib z hD1, upd_same, [], rfl, .nil⟩, h1⟩, ?_⟩
  rintro i m H3 ⟨rfl, hi', S3, E3, acc, I3, F3, c3, hD3, w3⟩
  have F3' : Fr S1 H1 (ownA σ E1) S3 H3 (ownA (L2.wipe σ vs) E3) := F3.weak sub
  by_cases hlt : i < items.length
  · refine .inr ⟨so.goes S3 H3 _ E3 I3 F3' i hlt, Inv3 (i + 1), fun H' z => ⟨items.length - (i + 1), by omega, rfl, hlt, z⟩, fun x H4 y => ?_⟩
    obtain ⟨S4, dx, hd, e4, r4⟩ := so.yields S3 H3 _ E3 I3 F3' i x H4 hlt y
    have hdrop : items.drop i = dx :: items.drop (i + 1) := by
      rw [List.drop_eq_getElem_cons hlt]
      have : items[i] = dx := by rw [List.getElem?_eq_getElem hlt] at hd; exact Option.some.inj hd
      rw [this]
    rw [hdrop] at w3
    have un3 : ∀ j, j ∈ vs → nth E3 j = .un := fun j hj => by
      have := c3 j
      rw [nth_wipe, if_pos hj] at this
      exact this
    refine gCT_ok (vs := vs) hct e4.si r4 w3 fun σ5 E5 f5 h5 => ⟨f5.wip.trans (wipe_wipe σ vs), ?_⟩
    have same5 : ∀ a, ownA σ5 E5 a → ownA (L2.wipe σ vs) E3 a := fun a ⟨j, y, hj, hσ⟩ => by
      by_cases hm : j ∈ vs
      · rcases f5.ins j hm with z | ⟨z, hz⟩
        · rw [z, un3 j hm] at hj; rcases hj with q | q <;> cases q
        · rw [hz] at hj; rcases hj with q | q <;> cases q
      · rw [(f5.out j hm).2] at hj
        rw [(f5.out j hm).1] at hσ
        exact ⟨j, y, hj, hσ⟩
    have F5 : Fr S1 H1 (ownA (L2.wipe σ vs) (wipeE E1 vs)) S4 H4 (ownA σ5 E5) := (F3.trans e4.fr).less same5
    have hD5 : RepR kt K S4 H4 σ5 E5 (.ref D_) (.fr (.lst acc)) := by
      obtain ⟨p, o, q1, q2, q3, q4, q5⟩ := hD3.step e4
      exact ⟨p, o, q1, q2, fun z => q3 (same5 p z), q4, q5⟩
    refine ⟨S4, E5, _, f5.si, h5, fun S6 H6 E6 b e6 h6 => ?_⟩
    have fin7 : ∀ S7 H7 E7 acc', Ev kt K S4 H4 σ5 E5 S7 H7 E7 → ∀ H8, SI kt K S7 H8 σ5 E7 → (H8 = H7 ∨ ∃ o, H8 = upd H7 D_ o) → RepR kt K S7 H8 σ5 E7 (.ref D_) (.fr (.lst acc')) → lcL ct dt (dFz de) vs (fun acc E2 => fin (restore E1 E2 vs) fun E3 => Q (.fr (.lst acc)) E3) (items.drop (i + 1)) acc' (wipeE E7 vs) → Inv3 (i + 1) H8 := fun S7 H7 E7 acc' e7 H8 I8 hH rD w => by
      have hw : L2.wipe σ5 vs = L2.wipe σ vs := f5.wip.trans (wipe_wipe σ vs)
      have I9 := I8.wipe vs
      rw [hw] at I9
      have less : ∀ a, ownA (L2.wipe σ vs) (wipeE E7 vs) a → ownA σ5 E7 a := fun a ⟨j, y, hj, hσ⟩ => by
        rw [nth_wipe] at hj
        by_cases hm : j ∈ vs
        · rw [if_pos hm] at hj; rcases hj with q | q <;> cases q
        · rw [if_neg hm] at hj
          rw [← hw, get_wipe hm] at hσ
          exact ⟨j, y, hj, hσ⟩
      have F8 : Fr S1 H1 (ownA (L2.wipe σ vs) (wipeE E1 vs)) S7 H8 (ownA (L2.wipe σ vs) (wipeE E7 vs)) := by
        rcases hH with rfl | ⟨o, rfl⟩
        · exact (F5.trans e7.fr).less less
        · exact ((F5.trans e7.fr).less less).updNew hD1
      refine ⟨S7, wipeE E7 vs, acc', I9, F8, fun j => ?_, ?_, w⟩
      · rw [nth_wipe, nth_wipe]
        by_cases hm : j ∈ vs
        · rw [if_pos hm, if_pos hm]; exact .refl _
        · rw [if_neg hm, if_neg hm]
          have q1 := c3 j
          rw [nth_wipe, if_neg hm] at q1
          have q2 := e7.cells j
          rw [(f5.out j hm).2] at q2
          exact q1.trans q2
      · obtain ⟨p, o, q1, q2, q3, q4, q5⟩ := rD
        exact ⟨p, o, q1, q2, fun z => q3 (less p z), q4, q5⟩
    cases b with
    | false =>
      rw [if_neg Bool.false_ne_true] at h6
      dsimp only
      rw [if_neg Bool.false_ne_true]
      exact fin7 S6 H6 E6 acc e6 H6 e6.si (.inl rfl) (hD5.step e6) h6
    | true =>
      rw [if_pos rfl] at h6
      dsimp only
      rw [if_pos rfl]
      refine ⟨S6, E6, _, e6.si, h6, fun S7 H7 E7 yv yd e7 ry h7 => ?_⟩
      have e67 := e6.trans e7
      obtain ⟨p, o, q1, q2, q3, q4, q5⟩ := hD5.step e67
      cases q1
      obtain ⟨accv, rfl, ra⟩ := q5
      refine ⟨accv, q4, by rw [ra.length]; exact h7.1, ?_⟩
      have I8 : SI kt K S7 (upd H7 D_ (.lst (accv ++ [yv]))) σ5 E7 := e67.si.updT q2 q3 fun j x w hj hσ hw => by
        subst hw
        have hjm : j ∉ vs := fun hm => by
          have := e67.cells j
          rw [hj] at this
          have z := this.ro_of
          rcases f5.ins j hm with z' | ⟨y, z'⟩
          · rw [z', un3 j hm] at z; cases z
          · rw [z'] at z; cases z
        have h5' : nth E5 j = .ro x := by have := e67.cells j; rw [hj] at this; exact this.ro_of
        rw [(f5.out j hjm).2] at h5'
        have hb : nth (wipeE E1 vs) j = .ro x := by have := c3 j; rw [h5'] at this; exact this.ro_of
        rw [(f5.out j hjm).1] at hσ
        obtain ⟨w, b1, b2⟩ := Ib.ro j x hb
        rw [hσ] at b1; cases b1
        rcases b2 with b2 | ⟨p, u, e1, b3, _, _⟩
        · exact b2.mono (le_of ((F5.ex).trans e67.fr.ex))
        · cases e1
          rcases b3 with b3 | ⟨⟨_, b3⟩, _⟩ <;> (rw [hD1] at b3; cases b3)
      exact fin7 S7 H7 E7 (acc ++ [yd]) e67 _ I8 (.inr ⟨_, rfl⟩) ⟨D_, _, rfl, q2, q3, upd_same, accv ++ [yv], rfl, ra.append (.cons ry .nil)⟩ h7.2
  · have ei : i = items.length := by omega
    subst ei
    rw [List.drop_length] at w3
    exact .inl ⟨so.stops S3 H3 _ E3 I3 F3', restored_lc I pr hD1 I3 F3 c3 hD3 w3 k⟩
theorem se_lc {elt : Expr} {ifs : List Expr} {scope : Scope} {own : List (Str × Nat)} {ct : CT} (hc : X.calm = true) (hN : X.N.Nodup) (hi : SI_ X kt tg iter di) (ok : BlkOk X.N X.env.scope scope own) (hct : ∀ j ∈ ct.slots, j ∈ own.map (·.2))
    (hg : ∀ (s : Shared) (H : Hp) (C : Addr) (cl : List (Str × Addr)) (fp : List Addr), PG (X.blk s H scope (compEnvC scope cl C X.env) fp) tg (gCT X.K ct)) (ht : ∀ (s : Shared) (H : Hp) (C : Addr) (cl : List (Str × Addr)) (fp : List Addr), STs (X.blk s H scope (compEnvC scope cl C X.env) fp) kt ifs dt)
    (he : ∀ (s : Shared) (H : Hp) (C : Addr) (cl : List (Str × Addr)) (fp : List Addr), SE (X.blk s H scope (compEnvC scope cl C X.env) fp) kt elt de) (hs : ∀ x, foldedSetIterable iter X.env x = pure x := by intro _; rfl) :
    SE X kt (.ListComp elt [⟨tg, iter, ifs, 0⟩] scope pos) (dLc di ct (own.map (·.2)) dt de) := by
  obtain ⟨wi, pi, li⟩ := hi.ex
  exact ⟨_, pe_lc (tt := tOfT kt X.K dt) (te := tOfV kt X.K (dFz de)) hc hN pi ok hg (fun s H C cl fp => (ht s H C cl fp).canon) (fun s H C cl fp => (fz (he s H C cl fp)).canon) hs, lc_lk li hct⟩
/-- name = [..], the name a local -/
theorem ss_setLc (i : Nat) {y : Str} {py spos : Pos} {elt : Expr} {ifs : List Expr} {scope : Scope} {own : List (Str × Nat)} {ct : CT} {g : DG} (hc : X.calm = true) (hN : X.N.Nodup) (hy : X.N[i]? = some y) (hyl : X.env.scope.names.lookup y = some .local) (hgd : LkG kt X.K (gName i) g)
    (hsw : swapsWith (.ListComp elt [⟨tg, iter, ifs, 0⟩] scope pos) (some (.Name y py)) spos.line X.env = pure true) (hi : SI_ X kt tg iter di) (ok : BlkOk X.N X.env.scope scope own) (hct : ∀ j ∈ ct.slots, j ∈ own.map (·.2))
    (hg : ∀ (s : Shared) (H : Hp) (C : Addr) (cl : List (Str × Addr)) (fp : List Addr), PG (X.blk s H scope (compEnvC scope cl C X.env) fp) tg (gCT X.K ct)) (ht : ∀ (s : Shared) (H : Hp) (C : Addr) (cl : List (Str × Addr)) (fp : List Addr), STs (X.blk s H scope (compEnvC scope cl C X.env) fp) kt ifs dt)
    (he : ∀ (s : Shared) (H : Hp) (C : Addr) (cl : List (Str × Addr)) (fp : List Addr), SE (X.blk s H scope (compEnvC scope cl C X.env) fp) kt elt de) (hs : ∀ x, foldedSetIterable iter X.env x = pure x := by intro _; rfl) :
    SS X kt (.Assign [.Name y py] (.ListComp elt [⟨tg, iter, ifs, 0⟩] scope pos) spos) (sAsg (dLc di ct (own.map (·.2)) dt de) g) := by
  obtain ⟨wi, pi, li⟩ := hi.ex
  refine ⟨_, ps_setLc (tt := tOfT kt X.K dt) (te := tOfV kt X.K (dFz de)) hc hN hy hyl hsw pi ok hg (fun s H C cl fp => (ht s H C cl fp).canon) (fun s H C cl fp => (fz (he s H C cl fp)).canon) hs, fun S H σ E DD D I h e => ?_⟩
  exact lc_lk li hct S H σ E _ _ I h fun S1 H1 E1 v r e1 q n h1 => hgd S H σ E S1 H1 σ E1 v r _ _ I (e1.go I) q n h1 fun S2 H2 σ2 E2 g2 _ h2 => e.nx S2 H2 σ2 E2 g2 h2
end
end BD
set_option Elab.async false
set_option linter.all false
set_option maxRecDepth 100000
set_option maxHeartbeats 2000000
/-! BD: defs, their promises on data, and calls of them. -/
namespace BD
open PySem PySem.Spec PyProof.Rows L2
/-- a def on data: the slots it is handed, what is wanted of the answer and of the lent container behind it -/
abbrev DF := List Cell → (R → Option D → Prop) → Prop
def borOf : List Cell → Option D
  | [] => none
  | .bor d :: _ => some d
  | _ :: r => borOf r
structure ArgsFit (cs : List Cell) : Prop where
  one : ∀ i j d e, nth cs i = .bor d → nth cs j = .bor e → i = j
  noOwn : ∀ i d, nth cs i ≠ .own d
section
variable (kt : Bool) (K : PySem.W.Frag)
structure FnPost (S H : Hp) (vs : List V) (cs : List Cell) (S' H' : Hp) (v : V) (r : R) (b : Option D) : Prop where
  ex : Same S' H'
  fr : Fr S H (ownA (vs.map some) cs) S' H' (ownA (vs.map some) cs)
  bor : ∀ i d, nth cs i = .bor d → ∃ p o d', vs[i]? = some (.ref p) ∧ b = some d' ∧ S' p = none ∧ H' p = some o ∧ Own kt K S' o d'
  ret : match r with | .val d => Rp kt K S' v d | .fr d => ∃ p o, v = .ref p ∧ S' p = none ∧ H p = none ∧ H' p = some o ∧ Own kt K S' o d | .cell _ => False
/-- the promise of a def by its work on data -/
def spD (F : DF) : Sp := fun vs H Q _ => ∃ S cs post, SI kt K S H (vs.map some) cs ∧ ArgsFit cs ∧ F cs post ∧ ∀ S' H' v r b, FnPost kt K S H vs cs S' H' v r b → post r b → Q v H'
end
theorem nth_app {cs : List Cell} {n i : Nat} : nth (cs ++ List.replicate n .un) i = nth cs i := by
  induction cs generalizing i with
  | nil =>
    rw [List.nil_append]
    induction n generalizing i with
    | zero => rfl
    | succ n ih =>
      rw [List.replicate_succ]
      cases i with
      | zero => rfl
      | succ i => exact ih
  | cons c r ih =>
    cases i with
    | zero => rfl
    | succ i => exact ih
theorem borOf_eq {E : List Cell} {i : Nat} {d : D} (h : nth E i = .bor d) (u : ∀ j e, nth E j = .bor e → j = i) : borOf E = some d := by
  induction E generalizing i with
  | nil => cases h
  | cons c r ih =>
    cases i with
    | zero =>
      cases (show c = .bor d from h)
      rfl
    | succ i =>
      have hc : ∀ e, c ≠ .bor e := fun e z => by
        have := u 0 e z
        cases this
      have := ih (i := i) h fun j e z => Nat.succ.inj (u (j + 1) e z)
      cases c with
      | bor e => exact absurd rfl (hc e)
      | _ => exact this
section
variable {kt : Bool} {P : Program} {w : World} {K : PySem.W.Frag} {mg : Str → Option Value} {base : Heap}
/-- THE RULE for a def -/
theorem fn_ok {x qual : Str} {st : Stmt} {f : Addr} {fd : FuncData} {N ps : List Str} {k : Nat} {FD : DF} (F : Fun K x qual st f fd) (Sc : FnScope N ps (defScope st)) (len : ∀ cs post, FD cs post → cs.length = ps.length)
    (hbody : ∀ (cdv : Value) (A : Around) (outer : List Env) (s : Shared) (H : Hp) (E : XK), Room k (A.deeper (envOfC qual (defScope st) s.heap.objs.size f cdv)) →
      ∃ d, SSs (cxOf CX0 P w K mg base N qual (defScope st) f cdv A outer s H E).nox kt (defBody st) d ∧ ∀ cs post, FD cs post → d { nx := fun E' => post (.val .non) (borOf E'), rt := fun r E' => post r (borOf E') } (cs ++ List.replicate (N.length - ps.length) .un)) :
    FnOk P w K mg base CX0 (k + 1) f fd ps (spD kt K FD) := by
  have vlen : ∀ vs H Q E, spD kt K FD vs H Q E → vs.length = ps.length := fun vs H Q E h => by
    obtain ⟨S, cs, post, I, _, hF, _⟩ := h
    have := I.len
    rw [List.length_map] at this
    exact this.trans (len cs post hF)
  refine F.ok Sc vlen fun cdv A outer s H vs Q E hr hsp => ?_
  have hvl := vlen vs H Q E hsp
  obtain ⟨S, cs, post, I, fit, hF, hQ⟩ := hsp
  obtain ⟨d, hd, hq⟩ := hbody cdv A outer s H E hr
  obtain ⟨t, p, l⟩ := hd.ex
  have hcl : cs.length = ps.length := len cs post hF
  have hst : ∀ i, nth cs i ≠ .un → (start N vs)[i]? = (vs.map some)[i]? := fun i hi => by
    have h1 : i < cs.length := nth_in hi
    unfold L2.start
    rw [List.getElem?_append_left (by rw [List.length_map, hvl, ← hcl]; exact h1)]
  have sub : ∀ a, ownA (start N vs) (cs ++ List.replicate (N.length - ps.length) .un) a → ownA (vs.map some) cs a := fun a ⟨j, y, hj, hσ⟩ => by
    rw [nth_app] at hj
    rw [hst j (fun z => by rw [z] at hj; rcases hj with q | q <;> cases q)] at hσ
    exact ⟨j, y, hj, hσ⟩
  have sub' : ∀ a, ownA (vs.map some) cs a → ownA (start N vs) (cs ++ List.replicate (N.length - ps.length) .un) a := fun a ⟨j, y, hj, hσ⟩ =>
    ⟨j, y, by rw [nth_app]; exact hj, by rw [hst j (fun z => by rw [z] at hj; rcases hj with q | q <;> cases q)]; exact hσ⟩
  have hN : ps.length ≤ N.length := by
    have := Sc.pre
    rw [← this, List.length_take]
    exact Nat.min_le_right _ _
  have I0 : SI kt K S H (start N vs) (cs ++ List.replicate (N.length - ps.length) .un) := by
    refine ⟨I.ex, ?_, fun i x hi => ?_, fun i x hi => ?_, fun i x hi => ?_, fun i j x y q hi hj h1 h2 => ?_⟩
    · unfold L2.start
      rw [List.length_append, List.length_append, List.length_map, List.length_replicate, List.length_replicate]
      omega
    · rw [nth_app] at hi
      rw [hst i (by rw [hi]; exact fun z => nomatch z)]
      exact I.val i x hi
    · rw [nth_app] at hi
      rw [hst i (by rw [hi]; exact fun z => nomatch z)]
      obtain ⟨u, h1, h2⟩ := I.ro i x hi
      exact ⟨u, h1, h2.mono .refl (fun _ _ h _ => h) (fun p _ _ z => sub p z)⟩
    · rw [nth_app] at hi
      rw [hst i (fun z => by rw [z] at hi; rcases hi with q | q <;> cases q)]
      exact I.own i x hi
    · rw [nth_app] at hi hj
      rw [hst i (fun z => by rw [z] at hi; rcases hi with q | q <;> cases q)] at h1
      rw [hst j (fun z => by rw [z] at hj; rcases hj with q | q <;> cases q)] at h2
      exact I.dis i j x y q hi hj h1 h2
  have endp : ∀ S' H' σ' E' v r, Go kt K S H (start N vs) (cs ++ List.replicate (N.length - ps.length) .un) S' H' σ' E' → RetR kt K H (start N vs) (cs ++ List.replicate (N.length - ps.length) .un) S' H' v r → post r (borOf E') → Q v H' := fun S' H' σ' E' v r g rr hp => by
    refine hQ S' H' v r (borOf E') ⟨g.si.ex, ⟨g.fr.ex, fun a u h1 h2 => g.fr.keep a u h1 fun z => h2 (sub a z), fun a h1 h2 h3 => g.fr.free a h1 h2 fun z => h3 (sub a z), fun a h => .inl h, g.fr.alive⟩, fun i x hi => ?_, ?_⟩ hp
    · obtain ⟨h1, d', h2⟩ := g.bor i x (by rw [nth_app]; exact hi)
      obtain ⟨p, o, a1, a2, a3, a4⟩ := g.si.own i d' (.inr h2)
      refine ⟨p, o, d', ?_, borOf_eq h2 fun j e hj => ?_, a2, a3, a4⟩
      · rw [h1, hst i (by rw [hi]; exact fun z => nomatch z), List.getElem?_map] at a1
        cases q : vs[i]? with
        | none => rw [q] at a1; cases a1
        | some u => rw [q] at a1; cases a1; rfl
      · obtain ⟨e', he⟩ := g.borb j e hj
        rw [nth_app] at he
        exact fit.one j i e' x he hi
    · cases r with
      | val x => exact rr
      | cell i => exact rr
      | fr x =>
        obtain ⟨p, o, a1, a2, a3, a4, a5⟩ := rr
        refine ⟨p, o, a1, a2, ?_, a4, a5⟩
        rcases a3 with ⟨j, y, hj, _⟩ | z
        · rw [nth_app] at hj
          exact absurd hj (fit.noOwn j y)
        · exact z
  refine ⟨t, p, l S H (start N vs) _ _ _ I0 (hq cs post hF) ⟨fun S' H' σ' E' g hn => ?_, fun S' H' σ' E' g hn => hn, fun S' H' σ' E' g hn => hn, fun S' H' σ' E' v r g rr hn => ?_⟩⟩
  · exact endp S' H' σ' E' .non (.val .non) g .non hn
  · exact endp S' H' σ' E' v r g rr hn
end
/-! ### calls -/
def cellRo (E : List Cell) (s : Option Nat) (r : R) (k : Cell → Prop) : Prop := match r with
  | .val d => k (.val d)
  | .fr d => k (.ro d)
  | .cell i => s ≠ some i ∧ match nth E i with
    | .un => False
    | .val d => k (.val d)
    | .ro d => k (.ro d)
    | .own d => k (.ro d)
    | .bor d => k (.ro d)
def cellsOf (E : List Cell) (s : Option Nat) : Option Nat → List R → (List Cell → Prop) → Prop
  | none, [], k => k []
  | some _, [], _ => False
  | none, r :: rs, k => cellRo E s r fun c => cellsOf E s none rs fun cs => k (c :: cs)
  | some (n + 1), r :: rs, k => cellRo E s r fun c => cellsOf E s (some n) rs fun cs => k (c :: cs)
  | some 0, r :: rs, k => match r with
    | .cell i => s = some i ∧ match nth E i with
      | .own d => cellsOf E s none rs fun cs => k (.bor d :: cs)
      | .bor d => cellsOf E s none rs fun cs => k (.bor d :: cs)
      | _ => False
    | _ => False
def upB (E : List Cell) (i : Nat) (d : D) : List Cell := match nth E i with
  | .bor _ => put E i (.bor d)
  | _ => put E i (.own d)
/-- f(..); b: the parameter that is lent, and its slot here -/
def dCallF (F : DF) (b : Option (Nat × Nat)) (dr : DR) : DE := fun E Q => dr E fun rs E1 => cellsOf E1 (b.map (·.2)) (b.map (·.1)) rs fun cs => F cs fun r o => match b with
  | none => Q r E1
  | some (_, i) => match o with
    | some d => Q r (upB E1 i d)
    | none => False
section
variable (kt : Bool) (K : PySem.W.Frag)
def ArgOk (S H : Hp) (B : Addr → Prop) (v : V) : Cell → Prop
  | .val d => Rp kt K S v d
  | .ro d => RoV kt K S H B v d
  | .bor d => ∃ p o, v = .ref p ∧ B p ∧ S p = none ∧ H p = some o ∧ Own kt K S o d
  | _ => False
inductive Args (S H : Hp) (B : Addr → Prop) : List V → List Cell → Prop
  | nil : Args S H B [] []
  | cons {v : V} {vs : List V} {c : Cell} {cs : List Cell} : ArgOk kt K S H B v c → Args S H B vs cs → Args S H B (v :: vs) (c :: cs)
end
section
variable {kt : Bool} {K : PySem.W.Frag} {S H S' H' : Hp} {B : Addr → Prop} {σ : L2.St} {E : List Cell} {v : V} {vs : List V} {r : R} {rs : List R} {s : Option Nat}
/-- the lent address -/
def lent (σ : L2.St) (E : List Cell) (s : Option Nat) (a : Addr) : Prop := ∃ i d, s = some i ∧ (nth E i = .own d ∨ nth E i = .bor d) ∧ σ[i]? = some (some (.ref a))
theorem lent.own {a : Addr} (h : lent σ E s a) : ownA σ E a := let ⟨i, d, _, h1, h2⟩ := h; ⟨i, d, h1, h2⟩
theorem cellRo_ok {k : Cell → Prop} (I : SI kt K S H σ E) (q : RepR kt K S H σ E v r) (h : cellRo E s r k) : ∃ c, ArgOk kt K S H (lent σ E s) v c ∧ (∀ d, c ≠ .bor d) ∧ (∀ d, c ≠ .own d) ∧ k c := by
  cases r with
  | val d => exact ⟨.val d, q, (fun _ z => nomatch z), (fun _ z => nomatch z), h⟩
  | fr d =>
    obtain ⟨p, o, a1, a2, a3, a4, a5⟩ := q
    exact ⟨.ro d, .inr ⟨p, o, a1, .inl a4, a5, fun z => a3 z.own⟩, (fun _ z => nomatch z), (fun _ z => nomatch z), h⟩
  | cell i =>
    obtain ⟨q1, q2⟩ := q
    obtain ⟨h1, h2⟩ := h
    have own : ∀ d, (nth E i = .own d ∨ nth E i = .bor d) → k (.ro d) → ∃ c, ArgOk kt K S H (lent σ E s) v c ∧ (∀ d, c ≠ .bor d) ∧ (∀ d, c ≠ .own d) ∧ k c := fun d hi hk => by
      obtain ⟨p, o, a1, a2, a3, a4⟩ := I.own i d hi
      have a1' := a1
      rw [q1] at a1; cases a1
      refine ⟨.ro d, .inr ⟨p, o, rfl, .inl a3, a4, fun z => ?_⟩, (fun _ z => nomatch z), (fun _ z => nomatch z), hk⟩
      obtain ⟨j, x, b1, b2, b3⟩ := z
      exact h1 (by rw [b1, I.dis j i x d p b2 hi b3 a1'])
    cases z : nth E i with
    | un => exact absurd z q2
    | val d =>
      rw [z] at h2
      obtain ⟨u, a1, a2⟩ := I.val i d z
      rw [q1] at a1; cases a1
      exact ⟨.val d, a2, (fun _ z => nomatch z), (fun _ z => nomatch z), h2⟩
    | ro d =>
      rw [z] at h2
      obtain ⟨u, a1, a2⟩ := I.ro i d z
      rw [q1] at a1; cases a1
      exact ⟨.ro d, a2.mono .refl (fun _ _ h _ => h) (fun p _ _ z => z.own), (fun _ z => nomatch z), (fun _ z => nomatch z), h2⟩
    | own d => rw [z] at h2; exact own d (.inl z) h2
    | bor d => rw [z] at h2; exact own d (.inr z) h2
theorem cellsN_ok (I : SI kt K S H σ E) : ∀ {vs : List V} {rs : List R} {k : List Cell → Prop}, RepRs kt K S H σ E vs rs → cellsOf E s none rs k → ∃ cs, Args kt K S H (lent σ E s) vs cs ∧ (∀ i d, nth cs i ≠ .bor d) ∧ (∀ i d, nth cs i ≠ .own d) ∧ k cs
  | _, _, _, .nil, h => ⟨[], .nil, (fun _ _ z => nomatch z), (fun _ _ z => nomatch z), h⟩
  | _, _, _, .cons q t, h => by
    obtain ⟨c, a, n1, n2, h1⟩ := cellRo_ok I q h
    obtain ⟨cs, as, m1, m2, h2⟩ := cellsN_ok I t h1
    refine ⟨c :: cs, .cons a as, fun i d => ?_, fun i d => ?_, h2⟩
    · cases i with
      | zero => exact n1 d
      | succ i => exact m1 i d
    · cases i with
      | zero => exact n2 d
      | succ i => exact m2 i d
theorem cells_ok (I : SI kt K S H σ E) : ∀ {j : Option Nat} {vs : List V} {rs : List R} {k : List Cell → Prop}, RepRs kt K S H σ E vs rs → cellsOf E s j rs k →
    ∃ cs, Args kt K S H (lent σ E s) vs cs ∧ ArgsFit cs ∧ ((j = none ∧ ∀ i d, nth cs i ≠ .bor d) ∨ ∃ i n d x p, s = some i ∧ (nth E i = .own x ∨ nth E i = .bor x) ∧ σ[i]? = some (some (.ref p)) ∧ nth cs n = .bor d ∧ vs[n]? = some (.ref p)) ∧ k cs
  | none, _, _, _, q, h => by
    obtain ⟨cs, as, m1, m2, h2⟩ := cellsN_ok I q h
    exact ⟨cs, as, ⟨fun i j d e z => absurd z (m1 i d), m2⟩, .inl ⟨rfl, m1⟩, h2⟩
  | some _, _, _, _, .nil, h => h.elim
  | some (n + 1), _, _, _, .cons q t, h => by
    obtain ⟨c, a, n1, n2, h1⟩ := cellRo_ok I q h
    obtain ⟨cs, as, fit, ex, h2⟩ := cells_ok I t h1
    refine ⟨c :: cs, .cons a as, ⟨fun i j d e hi hj => ?_, fun i d => ?_⟩, ?_, h2⟩
    · cases i with
      | zero => exact absurd hi (n1 d)
      | succ i => cases j with
        | zero => exact absurd hj (n1 e)
        | succ j => exact congrArg (· + 1) (fit.one i j d e hi hj)
    · cases i with
      | zero => exact n2 d
      | succ i => exact fit.noOwn i d
    · rcases ex with ⟨z, _⟩ | ⟨i, m, d, x, p, a1, a2, a3, a4, a5⟩
      · cases z
      · exact .inr ⟨i, m + 1, d, x, p, a1, a2, a3, a4, a5⟩
  | some 0, _, r :: rs, k, .cons q t, h => by
    rename_i v vs
    cases r with
    | val d => exact h.elim
    | fr d => exact h.elim
    | cell i =>
      have h' : s = some i ∧ (match nth E i with | .own d => cellsOf E s none rs fun cs => k (.bor d :: cs) | .bor d => cellsOf E s none rs fun cs => k (.bor d :: cs) | _ => False) := h
      obtain ⟨h1, h2⟩ := h'
      have main : ∀ d, (nth E i = .own d ∨ nth E i = .bor d) → (cellsOf E s none rs fun cs => k (.bor d :: cs)) →
          ∃ cs, Args kt K S H (lent σ E s) (v :: vs) cs ∧ ArgsFit cs ∧ ((some 0 = none ∧ ∀ i d, nth cs i ≠ .bor d) ∨ ∃ i n d x p, s = some i ∧ (nth E i = .own x ∨ nth E i = .bor x) ∧ σ[i]? = some (some (.ref p)) ∧ nth cs n = .bor d ∧ (v :: vs)[n]? = some (.ref p)) ∧ k cs := fun d hi hk => by
        obtain ⟨p, o, a1, a2, a3, a4⟩ := I.own i d hi
        have a1' := a1
        rw [q.1] at a1; cases a1
        obtain ⟨cs, as, m1, m2, h3⟩ := cellsN_ok I t hk
        refine ⟨.bor d :: cs, .cons ⟨p, o, rfl, ⟨i, d, h1, hi, a1'⟩, a2, a3, a4⟩ as, ⟨fun a b x y ha hb => ?_, fun a x => ?_⟩, .inr ⟨i, 0, d, d, p, h1, hi, a1', rfl, rfl⟩, h3⟩
        · cases a with
          | zero => cases b with
            | zero => rfl
            | succ b => exact absurd hb (m1 b y)
          | succ a => exact absurd ha (m1 a x)
        · cases a with
          | zero => exact fun z => nomatch z
          | succ a => exact m2 a x
      cases z : nth E i with
      | own d => rw [z] at h2; exact main d (.inl z) h2
      | bor d => rw [z] at h2; exact main d (.inr z) h2
      | un => rw [z] at h2; exact h2.elim
      | val d => rw [z] at h2; exact h2.elim
      | ro d => rw [z] at h2; exact h2.elim
theorem Args.get : ∀ {vs : List V} {cs : List Cell} {i : Nat}, Args kt K S H B vs cs → nth cs i ≠ .un → ∃ v, vs[i]? = some v ∧ ArgOk kt K S H B v (nth cs i)
  | _, _, _, .nil, h => absurd rfl h
  | _, _, 0, .cons a _, _ => ⟨_, rfl, a⟩
  | _, _, i + 1, .cons _ t, h => Args.get (i := i) t h
theorem Args.len : ∀ {vs : List V} {cs : List Cell}, Args kt K S H B vs cs → vs.length = cs.length
  | _, _, .nil => rfl
  | _, _, .cons _ t => congrArg (· + 1) (Args.len t)
theorem Args.si {cs : List Cell} (e : Same S H) (a : Args kt K S H B vs cs) (fit : ArgsFit cs) : SI kt K S H (vs.map some) cs ∧ ∀ p, ownA (vs.map some) cs p → B p := by
  have g : ∀ i, nth cs i ≠ .un → ∃ v, (vs.map some)[i]? = some (some v) ∧ ArgOk kt K S H B v (nth cs i) := fun i hi => by
    obtain ⟨v, h1, h2⟩ := a.get hi
    exact ⟨v, by rw [List.getElem?_map, h1]; rfl, h2⟩
  have sub : ∀ p, ownA (vs.map some) cs p → B p := fun p ⟨j, x, hj, hσ⟩ => by
    rcases hj with hj | hj
    · exact absurd hj (fit.noOwn j x)
    · obtain ⟨v, h1, h2⟩ := g j (by rw [hj]; exact fun z => nomatch z)
      rw [hj] at h2
      obtain ⟨q, o, rfl, b1, _⟩ := h2
      rw [h1] at hσ; cases hσ
      exact b1
  refine ⟨⟨e, by rw [List.length_map]; exact a.len, fun i x hi => ?_, fun i x hi => ?_, fun i x hi => ?_, fun i j x y q hi hj h1 h2 => ?_⟩, sub⟩
  · obtain ⟨v, h1, h2⟩ := g i (by rw [hi]; exact fun z => nomatch z)
    rw [hi] at h2
    exact ⟨v, h1, h2⟩
  · obtain ⟨v, h1, h2⟩ := g i (by rw [hi]; exact fun z => nomatch z)
    rw [hi] at h2
    exact ⟨v, h1, RoV.mono .refl (fun _ _ h _ => h) (fun p _ _ z => sub p z) h2⟩
  · rcases hi with hi | hi
    · exact absurd hi (fit.noOwn i x)
    · obtain ⟨v, h1, h2⟩ := g i (by rw [hi]; exact fun z => nomatch z)
      rw [hi] at h2
      obtain ⟨p, o, rfl, b1, b2, b3, b4⟩ := h2
      exact ⟨p, o, h1, b2, b3, b4⟩
  · rcases hi with hi | hi
    · exact absurd hi (fit.noOwn i x)
    · rcases hj with hj | hj
      · exact absurd hj (fit.noOwn j y)
      · exact fit.one i j x y hi hj
end
section
variable {X : Cx} {kt : Bool} {f : Addr} {fd : FuncData} {ps : List Str} {k : Nat} {FD : DF} {x : Str} {p pos : Pos} {e : Expr} {es : List Expr} {dr : DR}
theorem se_call (b : Option (Nat × Nat)) (F : FnOk X.prog X.w X.K X.mg X.base CX0 k f fd ps (spD kt X.K FD)) (hr : Room k X.A) (hg : Gl X x) (hm : X.mg x = some (.ref f)) (hk : PySem.W.keepIn X.K (.ref f) = true) (hb : Binds X.K fd ps []) (ha : SR X kt (e :: es) dr)
    (hdb : (x == ("__debug__" : Str)) = false := by decide) (he : starEach (e :: es) X.env = (false, eval e X.env) :: starEach es X.env := by rfl) (hpl : (backTo pos (starEach es X.env)).any (·.1) = false := by rfl) :
    SE X kt (.Call (.Name x p) (e :: es) [] pos) (dCallF FD b dr) := by
  obtain ⟨t, q, l⟩ := ha.ex
  refine ⟨_, pe_call F hr hg hm hk hb .nil pass0 q hdb he hpl, fun S H σ E Q Q' I h kk => l S H σ E _ _ I h fun S1 H1 E1 vs rs e1 qs ns h1 => ?_⟩
  obtain ⟨cs, as, fit, ex, h2⟩ := cells_ok e1.si qs h1
  obtain ⟨Ic, sub⟩ := as.si e1.si.ex fit
  show spD kt X.K FD (vs ++ []) H1 Q' E0
  rw [List.append_nil]
  refine ⟨S1, cs, _, Ic, fit, h2, fun S2 H2 v r o po h3 => ?_⟩
  have I1 := e1.si
  have subA : ∀ a, ownA (vs.map some) cs a → ownA σ E1 a := fun a z => (sub a z).own
  have F2 : Fr S1 H1 (ownA σ E1) S2 H2 (ownA σ E1) := ⟨po.fr.ex, fun a u h1 h2 => po.fr.keep a u h1 fun z => h2 (subA a z), fun a h1 h2 h3 => po.fr.free a h1 h2 fun z => h3 (subA a z), fun a z => .inl z, po.fr.alive⟩
  -- the slots behind the call, where the lent one has its new container
  have fin : ∀ E2, (∀ j, (nth E2 j = nth E1 j ∧ ∀ d, (nth E1 j = .own d ∨ nth E1 j = .bor d) → ∀ q, σ[j]? = some (some (.ref q)) → ¬ ownA (vs.map some) cs q) ∨
      ∃ d d' q o', (nth E1 j = .own d ∧ nth E2 j = .own d' ∨ nth E1 j = .bor d ∧ nth E2 j = .bor d') ∧ σ[j]? = some (some (.ref q)) ∧ S2 q = none ∧ H2 q = some o' ∧ Own kt X.K S2 o' d') → E2.length = E1.length → Ev kt X.K S H σ E S2 H2 E2 := fun E2 hE hl => by
    have kind : ∀ j y, (nth E2 j = .own y ∨ nth E2 j = .bor y) → ∃ z, nth E1 j = .own z ∨ nth E1 j = .bor z := fun j y hj => by
      rcases hE j with ⟨h, _⟩ | ⟨d, d', q, o', h, _⟩
      · rw [h] at hj; exact ⟨y, hj⟩
      · rcases h with ⟨h, _⟩ | ⟨h, _⟩
        · exact ⟨d, .inl h⟩
        · exact ⟨d, .inr h⟩
    have less : ∀ a, ownA σ E2 a → ownA σ E1 a := fun a ⟨j, y, hj, hσ⟩ => let ⟨z, hz⟩ := kind j y hj; ⟨j, z, hz, hσ⟩
    have cells : ∀ j, CellStep (nth E1 j) (nth E2 j) := fun j => by
      rcases hE j with ⟨h, _⟩ | ⟨d, d', q, o', h, _⟩
      · rw [h]; exact .refl _
      · rcases h with ⟨h, h'⟩ | ⟨h, h'⟩
        · rw [h, h']; exact .inl ⟨d', rfl⟩
        · rw [h, h']; exact ⟨d', rfl⟩
    refine ⟨⟨po.ex, by rw [hl]; exact I1.len, fun j y hj => ?_, fun j y hj => ?_, fun j y hj => ?_, fun i j y z q hi hj h1 h2 => ?_⟩, (e1.fr.trans F2).less less, fun j => (e1.cells j).trans (cells j)⟩
    · rcases hE j with ⟨h, _⟩ | ⟨d, d', q, o', h, _⟩
      · rw [h] at hj
        obtain ⟨u, a1, a2⟩ := I1.val j y hj
        exact ⟨u, a1, a2.mono (le_of po.fr.ex)⟩
      · rcases h with ⟨_, h⟩ | ⟨_, h⟩ <;> (rw [h] at hj; cases hj)
    · rcases hE j with ⟨h, _⟩ | ⟨d, d', q, o', h, _⟩
      · rw [h] at hj
        obtain ⟨u, a1, a2⟩ := I1.ro j y hj
        refine ⟨u, a1, a2.mono (le_of po.fr.ex) (fun q u hq hn => ?_) (fun q _ _ z => less q z)⟩
        have na : ¬ ownA (vs.map some) cs q := fun z => hn (subA q z)
        rcases hq with hq | ⟨⟨w, hq⟩, hz⟩
        · exact .inl (po.fr.keep q u hq na)
        · exact .inr ⟨⟨w, po.fr.keep q _ hq na⟩, hz⟩
      · rcases h with ⟨_, h⟩ | ⟨_, h⟩ <;> (rw [h] at hj; cases hj)
    · rcases hE j with ⟨h, hn⟩ | ⟨d, d', q, o', h, g1, g2, g3, g4⟩
      · rw [h] at hj
        obtain ⟨q, u, a1, a2, a3, a4⟩ := I1.own j y hj
        have na := hn y hj q a1
        exact ⟨q, u, a1, po.fr.free q (by rw [a3]; exact fun z => nomatch z) a2 na, po.fr.keep q u a3 na, a4.mono (le_of po.fr.ex)⟩
      · have : y = d' := by rcases h with ⟨_, h⟩ | ⟨_, h⟩ <;> (rw [h] at hj; rcases hj with hj | hj <;> cases hj <;> rfl)
        subst this
        exact ⟨q, o', g1, g2, g3, g4⟩
    · obtain ⟨y', hi'⟩ := kind i y hi
      obtain ⟨z', hj'⟩ := kind j z hj
      exact I1.dis i j y' z' q hi' hj' h1 h2
  have done : ∀ E2, Ev kt X.K S H σ E S2 H2 E2 → Q r E2 → Q' v H2 := fun E2 e2 hq => by
    have pr := po.ret
    cases r with
    | val d => exact kk S2 H2 E2 v (.val d) e2 pr trivial hq
    | cell i => exact (show False from pr).elim
    | fr d =>
      obtain ⟨q, u, rfl, a1, a2, a3, a4⟩ := pr
      have hn : H q = none := e1.fr.back a2
      refine kk S2 H2 E2 _ (.fr d) e2 ⟨q, u, rfl, a1, fun z => ?_, a3, a4⟩ (fun q' hq' => by cases hq'; exact hn) hq
      obtain ⟨j, y, hj, hσ⟩ := z
      obtain ⟨y', hy⟩ := (e2.cells j).own_of hj
      exact ownA_alive I ⟨j, y', hy, hσ⟩ hn
  cases b with
  | none =>
    rcases ex with ⟨_, nb⟩ | ⟨i, _, _, _, _, z, _⟩
    · refine done E1 (fin E1 (fun j => .inl ⟨rfl, fun d _ q _ z => ?_⟩) rfl) h3
      obtain ⟨m, y, hm, _⟩ := z
      rcases hm with hm | hm
      · exact fit.noOwn m y hm
      · exact nb m y hm
    · cases z
  | some bi =>
    obtain ⟨bp, i⟩ := bi
    cases o with
    | none => exact (show False from h3).elim
    | some d' =>
      have h3' : Q r (upB E1 i d') := h3
      rcases ex with ⟨z, _⟩ | ⟨i', n, d, y, q, a1, a2, a3, a4, a5⟩
      · cases z
      · cases a1
        obtain ⟨q', o', d2, b1, b2, b3, b4, b5⟩ := po.bor n d a4
        cases b2
        rw [a5] at b1; cases b1
        have hil : i < E1.length := nth_in (fun z => by rw [z] at a2; rcases a2 with q | q <;> cases q)
        have hnb : ∀ j, j ≠ i → ∀ d, (nth E1 j = .own d ∨ nth E1 j = .bor d) → ∀ q, σ[j]? = some (some (.ref q)) → ¬ ownA (vs.map some) cs q := fun j hj d hd q hq z => by
          obtain ⟨i2, x2, c1, c2, c3⟩ := sub q z
          cases c1
          exact hj (I1.dis j i d x2 q hd c2 hq c3)
        refine done (upB E1 i d') (fin _ (fun j => ?_) ?_) h3'
        · by_cases hj : j = i
          · subst hj
            refine .inr ⟨y, d', q, o', ?_, a3, b3, b4, b5⟩
            rcases a2 with a2 | a2
            · refine .inl ⟨a2, ?_⟩
              unfold upB
              rw [a2]
              exact nth_put_self hil
            · refine .inr ⟨a2, ?_⟩
              unfold upB
              rw [a2]
              exact nth_put_self hil
          · refine .inl ⟨?_, hnb j hj⟩
            unfold upB
            split <;> exact nth_put_ne hj
        · unfold upB
          split <;> exact put_len _ _ _
end
end BD
set_option Elab.async false
set_option linter.all false
set_option maxRecDepth 100000
set_option maxHeartbeats 2000000
/-! BD: defs by their names. -/
namespace BD
open PySem PySem.Spec PyProof.Rows L2
/-- the def st stands under the name x -/
structure DefAt (K : PySem.W.Frag) (mg : Str → Option Value) (x : Str) (st : Stmt) (ps : List Str) : Prop where
  ex : ∃ f fd, Fun K x x st f fd ∧ mg x = some (.ref f) ∧ Binds K fd ps []
/-- what stands under the name x keeps the promise FD -/
structure Cal (P : Program) (w : World) (K : PySem.W.Frag) (mg : Str → Option Value) (base : Heap) (kt : Bool) (x : Str) (k : Nat) (FD : DF) : Prop where
  ex : ∃ f fd ps, FnOk P w K mg base CX0 k f fd ps (spD kt K FD) ∧ mg x = some (.ref f) ∧ PySem.W.keepIn K (.ref f) = true ∧ Binds K fd ps []
section
variable {X : Cx} {kt : Bool} {k : Nat} {FD : DF} {x : Str} {p pos : Pos} {e : Expr} {es : List Expr} {dr : DR}
theorem se_callC (b : Option (Nat × Nat)) (C : Cal X.prog X.w X.K X.mg X.base kt x k FD) (hr : Room k X.A) (hg : Gl X x) (ha : SR X kt (e :: es) dr)
    (hdb : (x == ("__debug__" : Str)) = false := by decide) (he : starEach (e :: es) X.env = (false, eval e X.env) :: starEach es X.env := by rfl) (hpl : (backTo pos (starEach es X.env)).any (·.1) = false := by rfl) :
    SE X kt (.Call (.Name x p) (e :: es) [] pos) (dCallF FD b dr) := by
  obtain ⟨f, fd, ps, F, hm, hk, hb⟩ := C.ex
  exact se_call b F hr hg hm hk hb ha hdb he hpl
end
section
variable {kt : Bool} {P : Program} {w : World} {K : PySem.W.Frag} {mg : Str → Option Value} {base : Heap}
theorem cal_ok {x : Str} {st : Stmt} {N ps : List Str} {k : Nat} {FD : DF} (h : DefAt K mg x st ps) (Sc : FnScope N ps (defScope st)) (len : ∀ cs post, FD cs post → cs.length = ps.length)
    (hbody : ∀ (f : Addr) (cdv : Value) (A : Around) (outer : List Env) (s : Shared) (H : Hp) (E : XK), Room k (A.deeper (envOfC x (defScope st) s.heap.objs.size f cdv)) →
      ∃ d, SSs (cxOf CX0 P w K mg base N x (defScope st) f cdv A outer s H E).nox kt (defBody st) d ∧ ∀ cs post, FD cs post → d { nx := fun E' => post (.val .non) (borOf E'), rt := fun r E' => post r (borOf E') } (cs ++ List.replicate (N.length - ps.length) .un)) :
    Cal P w K mg base kt x (k + 1) FD := by
  obtain ⟨f, fd, F, hm, hb⟩ := h.ex
  exact ⟨f, fd, ps, fn_ok F Sc len (hbody f), hm, F.kp, hb⟩
/-- a weaker promise, more room -/
theorem Cal.imp {x : Str} {k j : Nat} {FD FD' : DF} (h : Cal P w K mg base kt x k FD) (hk : k ≤ j) (i : ∀ cs post, FD' cs post → FD cs post) : Cal P w K mg base kt x j FD' := by
  obtain ⟨f, fd, ps, F, a, b, c⟩ := h.ex
  refine ⟨f, fd, ps, (F.mono hk).imp fun vs H Q E q => ?_, a, b, c⟩
  obtain ⟨S, cs, post, q1, q2, q3, q4⟩ := q
  exact ⟨S, cs, post, q1, q2, i cs post q3, q4⟩
theorem Cal.mono {x : Str} {k j : Nat} {FD : DF} (h : Cal P w K mg base kt x k FD) (hk : k ≤ j) : Cal P w K mg base kt x j FD := h.imp hk fun _ _ q => q
end
end BD
set_option Elab.async false
set_option linter.all false
set_option maxRecDepth 100000
set_option maxHeartbeats 2000000
/-! BD: enumerate(text). -/
namespace BD
open PySem PySem.Spec PyProof.Rows L2
/-- a text's signs, each in a new pair with its number -/
def ItesD (x : Str) : It := ⟨fun i _ => i < x.cps.size, fun i H v H' => ∃ T c, v = .ref T ∧ H T = none ∧ H' = upd H T (.tup [.int (i : Nat), .str ⟨#[c]⟩]) ∧ x.cps[i]? = some c, fun i _ => i = x.cps.size⟩
def stI (it : Addr) (ty : String) (x : Str) (t : Tok) (i : Nat) (h : Heap) : Prop := h.IsStrIter it ty x t i
theorem draws_str {P : Program} {w : World} {A : Around} (hh : A.handled = none) (it : Addr) (x : Str) (t : Tok) (ty : String) (hty : ty = "str_ascii_iterator" ∨ ty = "str_iterator") :
    Draws P w A it [it] x.cps.size (fun i v => ∃ c u, x.cps[i]? = some c ∧ v = .str ⟨#[c]⟩ u) (stI it ty x t) := by
  rcases hty with e | e
  · rw [e]; exact Draws.strAscii hh it x t
  · rw [e]; exact Draws.strWide hh it x t
theorem turn_enumS {P : Program} {w : World} {K : PySem.W.Frag} {elts : List Expr} {kk : Nat} {tpos : Pos} (x : Str) (t : Tok) (ty : String) (hty : ty = "str_ascii_iterator" ∨ ty = "str_iterator") (e it : Addr) :
    Turn P w K (.Tuple elts kk tpos) (ItesD x) [e, it] e (fun i h => (∃ old, IsEnum h e it ((i : Nat) : Int) old) ∧ h.IsStrIter it ty x t i ∧ e ≠ it) where
  mem := by simp
  obj := fun i h st b hb => by
    obtain ⟨⟨old, he⟩, ⟨o, ho, hc, hd⟩, _⟩ := st
    have e' : b = e ∨ b = it := by simpa using hb
    rcases e' with z | z
    · rw [z]; exact ⟨_, he, fun v q => nomatch q⟩
    · rw [z]; exact ⟨o, ho, fun v q => by rw [hd] at q; cases q⟩
  keep := fun i h h' st k => let ⟨⟨old, he⟩, ⟨o, ho, r⟩, hne⟩ := st; ⟨⟨old, k e (by simp) _ he⟩, ⟨o, k it (by simp) o ho, r⟩, hne⟩
  item := by
    intro X hP hw hK hc i pins s σ H E I hf st hg
    subst hP hw hK
    obtain ⟨⟨old, he⟩, hit, hne⟩ := st
    have hel : e < s.heap.objs.size := Heap.lt_size he
    have hil : it < s.heap.objs.size := by obtain ⟨_, q, _⟩ := hit; exact Heap.lt_size q
    refine wpAny_pyNext_enum_itemD (draws_str (show X.A.in1.handled = none from I.ok.hd hc) it x t ty hty) he hit hg hne (by simpa using hne) fun xv h' tk hP ho hit' hT hsz hk => ?_
    obtain ⟨c, u, hcx, rfl⟩ := hP
    refine ⟨_, rfl, wpAny_letOwnedTupleGo_enum (s := { s with heap := h', toks := tk + 1 }) ho fun h'' he' sb => ?_⟩
    have hT2 : h''.get? s.heap.objs.size = some { cls := .type "tuple", data := .seq #[.int i tk, .str ⟨#[c]⟩ u] } := (sb.2 _ (Nat.ne_of_gt hel)).trans hT
    have new : ObjOk X.prog X.w (upd H s.heap.objs.size (.tup [.int (i : Nat), .str ⟨#[c]⟩])) h'' s.heap.objs.size (.tup [.int (i : Nat), .str ⟨#[c]⟩]) :=
      ⟨by show 2 ≤ sizeLine; decide, [.int i tk, .str ⟨#[c]⟩ u], .cons ⟨_, rfl⟩ (.cons ⟨_, rfl⟩ .nil), ⟨_, hT2, rfl, _, rfl⟩⟩
    have I1 : Inv X pins σ (upd H s.heap.objs.size (.tup [.int (i : Nat), .str ⟨#[c]⟩])) { s with heap := h'', toks := tk + 1 } :=
      I.turnedNew (ch := [e, it]) (fun b ob hb q => (sb.2 b (fun z => hb (by simp [z]))).trans (hk b ob (fun z => hb (by simp [z])) (fun z => hb (by simp [z])) q)) hf (Nat.le_refl _) new
    refine ⟨.ref s.heap.objs.size, _, I1, rfl, ⟨_, c, rfl, I.hok.fresh (Nat.le_refl _), rfl, hcx⟩, ⟨⟨.str ⟨#[c]⟩ u, ?_⟩, ?_, hne⟩, fun b hb => ?_⟩
    · have e1 : ((i + 1 : Nat) : Int) = (i : Int) + 1 := by omega
      rw [e1]; exact he'
    · obtain ⟨o, ho', r⟩ := (show h'.IsStrIter it ty x t (i + 1) from hit')
      exact ⟨o, (sb.2 it (Ne.symm hne)).trans ho', r⟩
    · have hb' : b < s.heap.objs.size := by
        have e' : b = e ∨ b = it := by simpa using hb
        rcases e' with z | z
        · rw [z]; exact hel
        · rw [z]; exact hil
      rw [upd_ne (Nat.ne_of_lt hb')]
      exact (hf b hb).1
  done := by
    intro X hP hw hK hc i pins s σ H E I hf st hg
    subst hP hw hK
    obtain ⟨⟨old, he⟩, hit, hne⟩ := st
    obtain ⟨f0, f1, f2, f3, f4, f5⟩ := hf it (by simp)
    have hi : i = x.cps.size := hg
    subst hi
    have D := draws_str (P := X.prog) (w := X.w) (show X.A.in1.handled = none from I.ok.hd hc) it x t ty hty
    exact wpAny_pyNext_enum_endD D he hit fun h' eb => ⟨rfl, I.turned (t' := s.toks) (fun b o hb q => eb b o hb q) f0 f1 f3 f4 f5⟩
  self := fun A i s Q E st h => let ⟨⟨_, he⟩, _⟩ := st; wpAny_pyIter_enum he h
theorem strIter_two (x : Str) : strIterType x = "str_ascii_iterator" ∨ strIterType x = "str_iterator" := by
  unfold strIterType
  split
  · exact .inl rfl
  · exact .inr rfl
def iEnumS (ta : TA) : TI := fun σ H R => ta σ H fun vs H1 => ∃ x, vs = [.str x] ∧ R (ItesD x) H1
theorem pi_enumS {X : Cx} {e : Expr} {ta : TA} {p pos tpos : Pos} {elts : List Expr} {kk : Nat} (hg : Gl X "enumerate") (hm : X.mg "enumerate" = none) (ha : PA X [e] ta) (hs : starEach [e] X.env = [(false, eval e X.env)] := by rfl) :
    PI X (.Tuple elts kk tpos) (.Call (.Name "enumerate" p) [e] [] pos) (iEnumS ta) := by
  refine ⟨fun pins s σ H R I h => ?_⟩
  refine Call_ (ld_blt I hg hm boot_enumerate (PyProof.Rows.callWith_type1 (thn (ha.run pos pins s σ H _ I h) fun us s1 ⟨vs, H1, I1, r1, q1⟩ => ?_) hs rfl))
  obtain ⟨x, ex, q⟩ := q1
  subst ex
  cases r1 with
  | cons r rr =>
    cases rr
    obtain ⟨t, rfl⟩ := r
    refine call_enumerate_str fun h' he hit hsz hk => wpAny_pyIter_enum he ?_
    have I2 : Inv X pins σ H1 { s1 with heap := h' } := I1.kept (t' := s1.toks) hk
    refine ⟨s1.heap.objs.size + 1, [s1.heap.objs.size + 1, s1.heap.objs.size], _, _, H1, rfl, I2, turn_enumS x t _ (strIter_two x) (s1.heap.objs.size + 1) s1.heap.objs.size, ⟨⟨.none, he⟩, hit, Nat.succ_ne_self _⟩, fun b hb => ?_, q⟩
    have e' : b = s1.heap.objs.size + 1 ∨ b = s1.heap.objs.size := by simpa using hb
    have hle : s1.heap.objs.size ≤ b := by
      rcases e' with z | z
      · rw [z]; exact Nat.le_add_right _ _
      · rw [z]; exact Nat.le_refl _
    exact I1.fpOk hle (I1.hok.fresh hle)
def iES (da : DE) : DI := fun E Q => da E fun r E1 => vw E1 r fun d => match d with
  | .str z => Q (enumD (signsD z)) finId E1
  | _ => False
section
variable {X : Cx} {kt : Bool} {K : PySem.W.Frag} {S1 H1 : Hp} {a : Expr} {da : DE} {pos p : Pos}
theorem so_enumS {A : Addr → Prop} {z : Str} : SrcOk kt K S1 H1 A (ItesD z) (enumD (signsD z)) := by
  have hl : (enumD (signsD z)).length = z.cps.size := by rw [enumD_len]; unfold signsD; rw [List.length_map, Array.length_toList]
  refine ⟨fun S H σ E I F i hi => ?_, fun S H σ E I F => ?_, fun S H σ E I F i x H' hi hy => ?_⟩
  · rw [hl] at hi; exact hi
  · exact hl
  · obtain ⟨T, c, rfl, hT, rfl, hc⟩ := hy
    obtain ⟨S', e, r⟩ := ev_pair (x := .int (i : Nat)) (y := .str ⟨#[c]⟩) I hT (.int (i : Nat)) (.str ⟨#[c]⟩)
    refine ⟨S', _, enumD_get (d := .str ⟨#[c]⟩) ?_, e, r⟩
    unfold signsD
    rw [List.getElem?_map, Array.getElem?_toList, hc]
    rfl
theorem si_enumS {elts : List Expr} {kk : Nat} {tpos : Pos} (hg : Gl X "enumerate") (hm : X.mg "enumerate" = none) (ha : SE X kt a da) (hs : starEach [a] X.env = [(false, eval a X.env)] := by rfl) (hs1 : starEach [a] X.env = (false, eval a X.env) :: starEach [] X.env := by rfl) : SI_ X kt (.Tuple elts kk tpos) (.Call (.Name "enumerate" p) [a] [] pos) (iES da) := by
  obtain ⟨t, q, l⟩ := ha.ex
  refine ⟨_, pi_enumS hg hm (pa_cons q pa_nil hs1) hs, fun S H σ E Q R I h k => l S H σ E _ _ I h fun S1 H1 E1 v r e1 q1 n1 h1 => ?_⟩
  obtain ⟨d, w, h2⟩ := vw_ok e1.si q1 h1
  cases d with
  | str z => exact ⟨z, by rw [w.str], k _ _ _ _ _ _ (.id I e1) so_enumS h2⟩
  | _ => exact (show False from h2).elim
end
end BD
set_option Elab.async false
set_option linter.all false
set_option maxRecDepth 100000
set_option maxHeartbeats 2000000
/-! BD: a, b = x, y; chains; the law's end. -/
namespace BD
open PySem PySem.Spec PyProof.Rows L2
theorem u65 {A : Around} {k : Nat} (hr : Room k A) : A.units + 65 < cLine := by have := hr.un; omega
/-- the built-in names that are not written over -/
structure Bi (mg : Str → Option Value) : Prop where
  len : mg "len" = none
  int : mg "int" = none
  range : mg "range" = none
  enumerate : mg "enumerate" = none
  all : mg "all" = none
  any : mg "any" = none
  sum : mg "sum" = none
  min : mg "min" = none
  max : mg "max" = none
  abs : mg "abs" = none
  list : mg "list" = none
  tuple : mg "tuple" = none
  dict : mg "dict" = none
  set : mg "set" = none
  sorted : mg "sorted" = none
  isinstance : mg "isinstance" = none
  str : mg "str" = none
  bool : mg "bool" = none
  zip : mg "zip" = none
def sPar (i j : Nat) (dA : DA) : DS := fun DD E => dA E fun xs E1 => match xs with
  | [a, b] => canSet (nth E1 i) ∧ canSet (nth E1 j) ∧ DD.nx (put (put E1 i (.val a)) j (.val b))
  | _ => False
section
variable {X : Cx} {kt : Bool} {a b c : Expr} {dA : DA} {da db dc : DE} {pos : Pos}
theorem ss_par {i j : Nat} {x y : Str} {px py pt : Pos} {t1 k2 pt2} (hc : X.calm = true) (hN : X.N.Nodup) (hi : X.N[i]? = some x) (hj : X.N[j]? = some y) (hij : i ≠ j)
    (hx : X.env.scope.names.lookup x = some .local) (hy : X.env.scope.names.lookup y = some .local) (ha : SA X kt [a, b] dA)
    (hw : swappedStores [.Tuple [.Name x px, .Name y py] t1 pt] (.Tuple [a, b] k2 pt2) X.env = pure (some [x, y]))
    (hs : swapsWithSole [.Tuple [.Name x px, .Name y py] t1 pt] (.Tuple [a, b] k2 pt2) pos.line X.env = pure false := by rfl) :
    SS X kt (.Assign [.Tuple [.Name x px, .Name y py] t1 pt] (.Tuple [a, b] k2 pt2) pos) (sPar i j dA) := by
  obtain ⟨t, p, l⟩ := ha.ex
  refine ⟨_, ps_par hc hN hi hj hij hx hy p hw hs, fun S H σ E DD D I h e => l S H σ E _ _ I h fun S1 H1 E1 vs xs e1 r h1 => ?_⟩
  match xs, r, h1 with
  | [d1, d2], .cons r1 (.cons r2 .nil), h1 =>
    rename_i v1 v2
    refine ⟨v1, v2, rfl, ?_⟩
    have g1 := (e1.go I).set (w := v1) (c := .val d1) I h1.1 (fun d' hd => by cases hd; exact r1) (fun _ z => nomatch z) (fun _ z => nomatch z) (fun _ z => nomatch z)
    have g2 := g1.set (w := v2) (c := .val d2) I (i := j) (by rw [nth_put_ne (Ne.symm hij)]; exact h1.2.1) (fun d' hd => by cases hd; exact r2) (fun _ z => nomatch z) (fun _ z => nomatch z) (fun _ z => nomatch z)
    exact e.nx _ _ _ _ g2 h1.2.2
/-! ### a op b op' c -/
def dChain (rd rd' : D → D → (R → Prop) → Prop) (da db dc : DE) : DE := fun E Q => da E fun r1 E1 => db E1 fun r2 E2 => vw E2 r1 fun d1 => vw E2 r2 fun d2 => rd d1 d2 fun r => match r with
  | .val (.bl b) => if b = true then dc E2 fun r3 E3 => vw E3 r2 fun d2' => vw E3 r3 fun d3 => rd' d2' d3 fun r => Q r E3 else Q (.val (.bl false)) E2
  | _ => False
theorem chain_lk {r r' : R2} {rd rd' : D → D → (R → Prop) → Prop} {K : PySem.W.Frag} {ta tb tc : TE} (hd : OpD kt K r rd) (hd' : OpD kt K r' rd') (la : LkE kt K ta da) (lb : LkE kt K tb db) (lc : LkE kt K tc dc) : LkE kt K (tChain r r' ta tb tc) (dChain rd rd' da db dc) :=
  fun S H σ E Q Q' I h k => la S H σ E _ _ I h fun S1 H1 E1 v1 r1 e1 q1 n1 h1 => lb S1 H1 σ E1 _ _ e1.si h1 fun S2 H2 E2 v2 r2 e2 q2 n2 h2 => by
    obtain ⟨d1, w1, h3⟩ := vw_ok e2.si (q1.step e2) h2
    obtain ⟨d2, w2, h4⟩ := vw_ok e2.si q2 h3
    have e12 := e1.trans e2
    refine hd S2 H2 v1 v2 d1 d2 _ _ e2.si.ex w1 w2 h4 ⟨fun v d hv hq => ?_, fun p o d hp ho hq => ?_, fun p vs ds hp hr hq => ?_, fun p o vs ds hp hx hr hq => ?_, fun p vs ds hp hr hq => ?_⟩
    · cases d with
      | bl b =>
        cases hv
        refine ⟨b, rfl, ?_⟩
        cases b with
        | true =>
          rw [if_pos rfl]
          have hq' : dc E2 fun r3 E3 => vw E3 r2 fun d2' => vw E3 r3 fun d3 => rd' d2' d3 fun r => Q r E3 := hq
          refine lc S2 H2 σ E2 _ _ e2.si hq' fun S3 H3 E3 v3 r3 e3 q3 n3 h5 => ?_
          obtain ⟨d2', w2', h6⟩ := vw_ok e3.si (q2.step e3) h5
          obtain ⟨d3, w3, h7⟩ := vw_ok e3.si q3 h6
          exact hd' S3 H3 v2 v3 d2' d3 _ _ e3.si.ex w2' w3 h7 (outs_of (e12.trans e3) k)
        | false =>
          rw [if_neg Bool.false_ne_true]
          exact k S2 H2 E2 (.bl false) (.val (.bl false)) e12 (.bl false) trivial hq
      | _ => exact (show False from hq).elim
    · exact (show False from hq).elim
    · exact (show False from hq).elim
    · exact (show False from hq).elim
    · exact (show False from hq).elim
theorem se_chain {op op' : CmpOp} {rd rd' : D → D → (R → Prop) → Prop} (o : OpB X kt (compareOp op) rd) (o' : OpB X kt (compareOp op') rd') (ha : SE X kt a da) (hb : SE X kt b db) (hc : SE X kt c dc)
    (hm : lastMarks [op, op'] [b, c] = false := by with_unfolding_all rfl) : SE X kt (.Compare a [op, op'] [b, c] pos) (dChain rd rd' da db dc) := by
  obtain ⟨r, ho, hd⟩ := o.ex
  obtain ⟨r', ho', hd'⟩ := o'.ex
  obtain ⟨ta, pa, la⟩ := ha.ex
  obtain ⟨tb, pb, lb⟩ := hb.ex
  obtain ⟨tc, pc, lc⟩ := hc.ex
  exact ⟨_, pe_chain ho ho' pa pb pc hm, chain_lk hd hd' la lb lc⟩
theorem st_chain {op op' : CmpOp} {rd rd' : D → D → (R → Prop) → Prop} (o : OpB X kt (compareOp op) rd) (o' : OpB X kt (compareOp op') rd') (ha : SE X kt a da) (hb : SE X kt b db) (hc : SE X kt c dc)
    (hm : lastMarks [op, op'] [b, c] = false := by with_unfolding_all rfl) : ST X kt (.Compare a [op, op'] [b, c] pos) (dB (dChain rd rd' da db dc)) := by
  obtain ⟨r, ho, hd⟩ := o.ex
  obtain ⟨r', ho', hd'⟩ := o'.ex
  obtain ⟨ta, pa, la⟩ := ha.ex
  obtain ⟨tb, pb, lb⟩ := hb.ex
  obtain ⟨tc, pc, lc⟩ := hc.ex
  exact ⟨_, pt_chain ho ho' pa pb pc hm, b_lk (chain_lk hd hd' la lb lc)⟩
end
/-! ### facts of the top -/
theorem defAt_mk {K : PySem.W.Frag} {h : Heap} {mg : Str → Option Value} {x : Str} {st : Stmt} {ps : List Str} {f : Addr} {oc : Value} {od an : Option Addr} {osl : Array (Option Value)} {kV doc pm cdv ct : Value} (X : K.In h) (G : h.Ns mainGlobals mg)
    (a : PySem.W.nsIn K mainGlobals x = some (some (.ref f))) (l : K.lookup f = some ⟨oc, od, .func (PySem.W.fnOf x x (defArgs st) (defBody st) (defScope st) .none kV doc pm an cdv ct), osl⟩)
    (c : PySem.W.codeIn K cdv x = true) (k : PySem.W.keepIn K (.ref f) = true)
    (hb : ∀ (kV doc pm : Value) (an : Option Addr) (cdv ct : Value) (us : List Value), us.length = ps.length → bindArgs (PySem.W.fnOf x x (defArgs st) (defBody st) (defScope st) .none kV doc pm an cdv ct) ⟨us, []⟩ = pure (ps.zip us)) : DefAt K mg x st ps :=
  ⟨f, _, fun_mk l c k, PySem.W.mg_of X G a, (fun_mk (st := st) l c k).binds hb⟩
/-- the law's own promise: of a script it says True -/
def FLaw : DF := fun cs post => ∃ ns : List Int, cs = [.val (.scr ns)] ∧ ns.length ≤ 63 ∧ (∀ z ∈ ns, Builtin.Int.intBits z ≤ 1048576) ∧ post (.val (.bl true)) none
theorem law_sp {kt : Bool} {K : PySem.W.Frag} {H : Hp} {a : Addr} {ns : List Int} (hl : ns.length ≤ 63) (hb : ∀ z ∈ ns, Builtin.Int.intBits z ≤ 1048576) (h : SqL K H a (ns.map V.int)) : spD kt K FLaw [.ref a] H (fun v _ => v = .bl true) fun _ _ _ => False := by
  refine ⟨H, [.val (.scr ns)], fun r _ => r = .val (.bl true), ⟨.refl H, rfl, fun i d hi => ?_, fun i d hi => ?_, fun i d hi => ?_, fun i j d e p hi => ?_⟩, ⟨fun i j d e hi => ?_, fun i d hi => ?_⟩, ⟨ns, rfl, hl, hb, rfl⟩, fun S' H' v r b po hr => ?_⟩
  · cases i with
    | zero => cases hi; exact ⟨_, rfl, .scr h⟩
    | succ i => cases hi
  · cases i <;> cases hi
  · cases i <;> (rcases hi with hi | hi <;> cases hi)
  · cases i <;> (rcases hi with hi | hi <;> cases hi)
  · cases i <;> cases hi
  · cases i <;> cases hi
  · subst hr
    have := po.ret
    cases (show Rp kt K S' v (.bl true) from this)
    rfl
end BD
set_option Elab.async false
set_option linter.all false
set_option maxRecDepth 100000
set_option maxHeartbeats 2000000
/-! BD: code that is never reached; text.index, text.replace. -/
namespace BD
open PySem PySem.Spec PyProof.Rows L2
section
variable {X : Cx} {kt : Bool} {K : PySem.W.Frag} {a b e : Expr} {st : Stmt} {sts : List Stmt} {da db : DE} {dr : DR} {pos p apos : Pos}
theorem se_dead : SE X kt e (fun _ _ => False) := ⟨fun _ _ _ => False, ⟨fun _ _ _ _ _ _ h => h.elim⟩, fun _ _ _ _ _ _ _ h _ => h⟩
theorem st_dead : ST X kt e (fun _ _ => False) := ⟨fun _ _ _ => False, ⟨fun _ _ _ _ _ _ h => h.elim⟩, fun _ _ _ _ _ _ _ h _ => h⟩
theorem ss_dead : SS X kt st (fun _ _ => False) := ⟨fun _ _ _ => False, ⟨fun _ _ _ _ _ _ h => h.elim⟩, fun _ _ _ _ _ _ _ h _ => h⟩
theorem sss_dead : SSs X kt sts (fun _ _ => False) := ⟨fun _ _ _ => False, ⟨fun _ _ _ _ _ _ h => h.elim⟩, fun _ _ _ _ _ _ _ h _ => h⟩
def ixS (ds : List D) (a : Str) (Q : R → Prop) : Prop := match ds with
  | [.str b] => ∃ i rest, Builtin.Str.occurrences a b 0 a.length 1 = i :: rest ∧ Q (.val (.int (i : Nat)))
  | _ => False
def dIdxS (da : DE) (dr : DR) : DE := fun E Q => da E fun r E1 => vw E1 r fun d => match d with
  | .str a => dr E1 fun rs E2 => vws E2 rs fun ds => ixS ds a fun r => Q r E2
  | _ => False
/-- text.index(text) -/
theorem se_index_str (ha : SE X kt a da) (hr : SR X kt [b] dr)
    (hbase : attributeBase a "index" X.env (eval a X.env) = eval a X.env := by rfl)
    (hfew : ((backTo pos (starEach [b] X.env)).all (fun x => !x.1) && (backToKw pos (keywordEach [] X.env)).all (fun x => x.1.isSome)
      && decide (([b] : List Expr).length + ([] : List Keyword).length + (if ([] : List Keyword).isEmpty then 0 else 1) < 30)) = true := by rfl)
    (hline : (apos.endLine == pos.line) = true := by rfl) (hs : starEach [b] X.env = (false, eval b X.env) :: starEach [] X.env := by rfl) (hplain : (backTo pos (starEach [] X.env)).any (·.1) = false := by rfl) :
    SE X kt (.Call (.Attribute a "index" apos) [b] [] pos) (dIdxS da dr) := by
  obtain ⟨t, q, l⟩ := ha.ex
  obtain ⟨tr, qr, lr⟩ := hr.ex
  refine ⟨_, pe_bm PySem.F.plainAttrs_str PySem.F.slot_str_index PySem.F.type_str_index mt_sindex q qr hbase hfew hline hs hplain, fun S H σ E Q Q' I h k => l S H σ E _ _ I h fun S1 H1 E1 v r e1 q1 n1 h1 => ?_⟩
  obtain ⟨d, w, h2⟩ := vw_ok e1.si q1 h1
  cases d with
  | str x =>
    cases w.str
    refine ⟨rfl, lr S1 H1 σ E1 _ _ e1.si h2 fun S2 H2 E2 vs rs e2 qs ns h3 => ?_⟩
    obtain ⟨ds, ws, h4⟩ := vws_ok e2.si qs h3
    match ds, ws, h4 with
    | [.str y], ws, h4 =>
      obtain ⟨v, rfl, w⟩ := ws.one
      cases w.str
      obtain ⟨i, rest, ho, hq⟩ := h4
      exact ⟨x, y, i, rest, rfl, rfl, ho, k S2 H2 E2 _ (.val (.int (i : Nat))) (e1.trans e2) (.int _) trivial hq⟩
    | [], _, h4 => exact (show False from h4).elim
    | .non :: _, _, h4 => exact (show False from h4).elim
    | .bl _ :: _, _, h4 => exact (show False from h4).elim
    | .int _ :: _, _, h4 => exact (show False from h4).elim
    | .lst _ :: _, _, h4 => exact (show False from h4).elim
    | .tup _ :: _, _, h4 => exact (show False from h4).elim
    | .dk _ :: _, _, h4 => exact (show False from h4).elim
    | .dt _ :: _, _, h4 => exact (show False from h4).elim
    | .scr _ :: _, _, h4 => exact (show False from h4).elim
    | .str _ :: _ :: _, _, h4 => exact (show False from h4).elim
  | _ => exact (show False from h2).elim
end
section
variable {X : Cx} {kt : Bool} {i j k : Nat} {x : Str} {n : Int} {z : Str} {p p' q pos apos c0 c1 : Pos}
def tReplIx (i : Nat) (n : Int) (z : Str) : TE := fun σ H Q => ∃ x, σ[i]? = some (some (.str x)) ∧ 0 ≤ n ∧ n < x.length ∧ n < 2 ^ 63 ∧ (Txt.item x n == z) = false ∧ x.length + (x.length + 1) * z.length ≤ 16777216 ∧ Q (.str (Txt.replace x (Txt.item x n) z)) H
def dReplIx (i : Nat) (n : Int) (z : Str) : DE := fun E Q => match nth E i with
  | .val (.str x) => (0 ≤ n ∧ n < x.length ∧ n < 2 ^ 63 ∧ (Txt.item x n == z) = false ∧ x.length + (x.length + 1) * z.length ≤ 16777216) ∧ Q (.val (.str (Txt.replace x (Txt.item x n) z))) E
  | _ => False
/-- x.replace(x[n], z), n and z written -/
theorem se_replIx (i : Nat) (hN : X.N[i]? = some x := by rfl) (hv : Vis X.env.scope x := by first | exact Or.inl rfl | exact Or.inr (Or.inl rfl) | exact Or.inr (Or.inr rfl)) (hd : (x == ("__debug__" : Str)) = false := by decide) (hcd : (x == ("__classdict__" : Str)) = false := by decide)
    (hst : starEach [.Subscript (.Name x p') (.Constant (.int n) j c0) q, .Constant (.str z) k c1] X.env = [(false, eval (.Subscript (.Name x p') (.Constant (.int n) j c0) q) X.env), (false, eval (.Constant (.str z) k c1) X.env)] := by rfl)
    (hbase : attributeBase (.Name x p) "replace" X.env (eval (.Name x p) X.env) = eval (.Name x p) X.env := by rfl) (hline : (apos.endLine == pos.line) = true := by rfl) :
    SE X kt (.Call (.Attribute (.Name x p) "replace" apos) [.Subscript (.Name x p') (.Constant (.int n) j c0) q, .Constant (.str z) k c1] [] pos) (dReplIx i n z) := by
  refine ⟨tReplIx i n z, ⟨fun pins s σ H Q I h => ?_⟩, fun S H σ E Q Q' I h k => ?_⟩
  · obtain ⟨t, hx, h0, h1, h2, hne, hb, hq⟩ := h
    refine PySem.Call_method2 hbase hst hline (raw_name hN hv I hx (fun v r => ?_) hd hcd)
    obtain ⟨tx, e⟩ := r
    subst e
    refine ⟨"str", _, F.plainAttrs_str, F.slot_str_replace, F.type_str_replace, typeIs_str _ _ _, (fun _ e => nomatch e), Calls.callWith_builtin rfl (Calls.evalArgs_plain (Calls.spliced_cons ?_))⟩
    refine Subscript_ (raw_name hN hv I hx (fun v r => ?_) hd hcd)
    obtain ⟨ty, e⟩ := r
    subst e
    refine wpAny_Constant_int ?_
    refine item_str (fitsSsize_of (N := 9223372036854775808) (by omega) (by omega) (Int.le_refl _)) (by omega) h1 fun _ => ?_
    refine Calls.spliced_cons (Calls.Constant_str (Calls.spliced_nil ?_))
    exact PySem.SC.replace (by show s.toks + 1 ≠ 0; omega) (by show s.toks + 1 + 1 ≠ 0; omega) (by show s.toks + 1 ≠ s.toks + 1 + 1; omega) hne hb fun t' k => ⟨.str _, H, I.tok k, ⟨t', rfl⟩, hq⟩
  · unfold dReplIx at h
    cases e : nth E i with
    | val d =>
      rw [e] at h
      cases d with
      | str t =>
        obtain ⟨v, g1, g2⟩ := I.val i _ e
        cases g2
        obtain ⟨⟨h1, h2, h3, h4, h5⟩, h6⟩ := h
        exact ⟨t, g1, h1, h2, h3, h4, h5, k S H E _ (.val (.str _)) (.refl I) (.str _) trivial h6⟩
      | _ => exact (show False from h).elim
    | _ => rw [e] at h; exact (show False from h).elim
end
end BD
set_option Elab.async false
set_option linter.all false
set_option maxRecDepth 100000
set_option maxHeartbeats 2000000
/-! BD: how many bits numbers take; the pool. -/
namespace BD
open PySem PySem.Spec PyProof.Rows L2
abbrev ib (x : Int) : Nat := Builtin.Int.intBits x
theorem ib_iff {x : Int} {n : Nat} : ib x ≤ n ↔ x.natAbs < 2 ^ n := by
  unfold ib Builtin.Int.intBits
  by_cases h : x = 0
  · subst h
    simp
    exact Nat.pow_pos (by decide)
  · rw [if_neg (by simpa using h)]
    have hx : x.natAbs ≠ 0 := by omega
    rw [Nat.succ_le_iff, ← Nat.log2_lt hx]
theorem ib_nat {x : Int} {m : Nat} (h0 : 0 ≤ x) (h : x < 2 ^ m) : ib x ≤ m := by
  rw [ib_iff]
  have : ((2 ^ m : Nat) : Int) = 2 ^ m := by norm_cast
  omega
theorem ib_add {x y : Int} {n : Nat} (hx : ib x ≤ n) (hy : ib y ≤ n) : ib (x + y) ≤ n + 1 := by
  rw [ib_iff] at *
  rw [Nat.pow_succ]
  omega
theorem ib_sub {x y : Int} {n : Nat} (hx : ib x ≤ n) (hy : ib y ≤ n) : ib (x - y) ≤ n + 1 := by
  rw [ib_iff] at *
  rw [Nat.pow_succ]
  omega
theorem ib_mul {x y : Int} {n m : Nat} (hx : ib x ≤ n) (hy : ib y ≤ m) : ib (x * y) ≤ n + m := by
  rw [ib_iff] at *
  rw [Int.natAbs_mul, Nat.pow_add]
  exact Nat.mul_lt_mul'' hx hy
theorem ib_mod {x y : Int} {n : Nat} (h : 0 < y) (hy : ib y ≤ n) : ib (x % y) ≤ n := by
  rw [ib_iff] at *
  have := Int.emod_nonneg x (Int.ne_of_gt h)
  have := Int.emod_lt_of_pos x h
  omega
theorem ib_div {x y : Int} {n : Nat} (h0 : 0 ≤ x) (h : 0 < y) (hx : ib x ≤ n) : ib (x / y) ≤ n := by
  rw [ib_iff] at *
  have h1 := Int.ediv_nonneg h0 (Int.le_of_lt h)
  have h2 : x / y ≤ x := Int.ediv_le_self y h0
  omega
theorem ib_le {x : Int} {n m : Nat} (h : ib x ≤ n) (hm : n ≤ m := by decide) : ib x ≤ m := Nat.le_trans h hm
theorem mulX {x y : Int} {n m : Nat} (hx : ib x ≤ n) (hy : ib y ≤ m) (h : n + m ≤ 134217728 := by decide) : CMulX x y := by
  unfold CMulX
  have hx' : Builtin.Int.intBits x ≤ n := hx
  have hy' : Builtin.Int.intBits y ≤ m := hy
  omega
theorem iteD {c : Prop} [Decidable c] {A B : Prop} (h1 : c → A) (h2 : ¬ c → B) : if decide c = true then A else B := by
  by_cases h : c
  · rw [if_pos (decide_eq_true h)]; exact h1 h
  · rw [if_neg (by rw [decide_eq_false h]; exact Bool.false_ne_true)]; exact h2 h
theorem iteB {b : Bool} {A B : Prop} (h1 : b = true → A) (h2 : b = false → B) : if b = true then A else B := by
  cases b
  · rw [if_neg Bool.false_ne_true]; exact h2 rfl
  · rw [if_pos rfl]; exact h1 rfl
theorem ifF {b : Bool} {A B : Prop} (h : b = false) (h2 : B) : if b = true then A else B := by rw [if_neg (by rw [h]; exact Bool.false_ne_true)]; exact h2
theorem ifT {b : Bool} {A B : Prop} (h : b = true) (h2 : A) : if b = true then A else B := by rw [if_pos h]; exact h2
theorem atI_in {α : Type} {xs : List α} {i : Int} (h0 : 0 ≤ i) (h1 : i < xs.length) : ∃ x, atI xs i = some x ∧ xs[i.toNat]? = some x ∧ x ∈ xs := by
  have hj : i.toNat < xs.length := by omega
  refine ⟨xs[i.toNat], ?_, List.getElem?_eq_getElem hj, List.getElem_mem hj⟩
  unfold atI ixN
  rw [if_pos h0, if_pos h1]
  exact List.getElem?_eq_getElem hj
/-- the four items of the pool -/
def poolD (ns : List Int) (p r f : Int) : D := .lst [.scr ns, .int p, .int r, .int f]
/-- a pool from which at most t numbers were drawn or left -/
structure PoolOk (t : Nat) (ns : List Int) (p r f : Int) : Prop where
  len : ns.length ≤ 63
  bits : ∀ z ∈ ns, ib z ≤ 1048576
  p0 : 0 ≤ p
  pt : p ≤ t
  r0 : 0 ≤ r
  rb : ib r ≤ 1048580
  f0 : 0 ≤ f
  ft : f ≤ t
def Pool (t : Nat) (d : D) : Prop := ∃ ns p r f, d = poolD ns p r f ∧ PoolOk t ns p r f
def lineT : Nat := 1000000
/-! what is asked of the pool's functions -/
def F_mixed : DF := fun cs post => ∃ n p : Int, cs = [.val (.int n), .val (.int p)] ∧ 0 ≤ n ∧ ib n ≤ 1048600 ∧ 0 ≤ p ∧ ib p ≤ 100 ∧ ∀ r, 0 ≤ r → ib r ≤ 1000 → post (.val (.int r)) none
def F_rest : DF := fun cs post => ∃ (ns : List Int) (p f : Int), cs = [.val (.scr ns), .val (.int p), .val (.int f)] ∧ ns.length ≤ 63 ∧ (∀ z ∈ ns, ib z ≤ 1048576) ∧ 0 ≤ p ∧ ib p ≤ 100 ∧ 0 ≤ f ∧ ib f ≤ 100 ∧
  ∀ r, 0 ≤ r → ib r ≤ 1048580 → post (.val (.int r)) none
def F_pool : DF := fun cs post => ∃ ns : List Int, cs = [.val (.scr ns)] ∧ ns.length ≤ 63 ∧ (∀ z ∈ ns, ib z ≤ 1048576) ∧ ∀ d, Pool 0 d → post (.fr d) none
def F_next : DF := fun cs post => ∃ (t : Nat) (d : D), cs = [.bor d] ∧ Pool t d ∧ t ≤ lineT ∧ ∀ d', Pool (t + 1) d' → post (.val .non) (some d')
def F_draw : DF := fun cs post => ∃ (t : Nat) (d : D) (l : Int), cs = [.bor d, .val (.int l)] ∧ Pool t d ∧ t ≤ lineT ∧ 0 < l ∧ ib l ≤ 1000 ∧ ∀ d' v, Pool (t + 1) d' → 0 ≤ v → v < l → post (.val (.int v)) (some d')
end BD
set_option Elab.async false
set_option linter.all false
set_option maxRecDepth 100000
set_option maxHeartbeats 2000000
/-! BD: joins, loops, comprehensions by what stays. -/
namespace BD
open PySem PySem.Spec PyProof.Rows L2
theorem seqJoin {d u : DS} {DD : DEnds} {E : List Cell} (M : List Cell → Prop) (h2 : ∀ E', M E' → u DD E') (h1 : (∀ E', M E' → u DD E') → d { DD with nx := u DD } E) : sSeq d u DD E := h1 h2
theorem forL_inv {g : DG} {body : DS} {nx bk : List Cell → Prop} {rt : R → List Cell → Prop} (I : Nat → List Cell → Prop) : ∀ (items : List D) (i : Nat) (E : List Cell), I i E →
    (∀ (j : Nat) (x : D) (E : List Cell) (next : List Cell → Prop), i ≤ j → items[j - i]? = some x → I j E → (∀ E', I (j + 1) E' → next E') → g (.val x) E fun E1 => body ⟨next, rt, bk, next⟩ E1) →
    (∀ E, I (i + items.length) E → nx E) → dForL g body nx bk rt items E
  | [], i, E, h0, _, h2 => h2 E h0
  | x :: r, i, E, h0, h1, h2 => by
    refine h1 i x E _ (Nat.le_refl i) (by rw [Nat.sub_self]; rfl) h0 fun E' h => ?_
    refine forL_inv I r (i + 1) E' h (fun j y E2 next hj hy h3 h4 => h1 j y E2 next (by omega) ?_ h3 h4) fun E2 h3 => h2 E2 (by rw [List.length_cons]; rw [show i + (r.length + 1) = i + 1 + r.length by omega]; exact h3)
    rw [show j - i = (j - (i + 1)) + 1 by omega]
    exact hy
theorem for_inv {g : DG} {body : DS} {nx bk : List Cell → Prop} {rt : R → List Cell → Prop} (I : Nat → List Cell → Prop) {items : List D} {E : List Cell} (h0 : I 0 E)
    (h1 : ∀ (j : Nat) (x : D) (E : List Cell) (next : List Cell → Prop), items[j]? = some x → I j E → (∀ E', I (j + 1) E' → next E') → g (.val x) E fun E1 => body ⟨next, rt, bk, next⟩ E1)
    (h2 : ∀ E, I items.length E → nx E) : dForL g body nx bk rt items E :=
  forL_inv I items 0 E h0 (fun j x E next _ hx => h1 j x E next hx) (by rw [Nat.zero_add]; exact h2)
theorem lc_fm {ct : CT} {tt : DT} {de : DV} {vs : List Nat} {done : List D → List Cell → Prop} (f : D → Option D) (E0 : List Cell) : ∀ (items acc : List D),
    (∀ x, x ∈ items → ∀ k : Option D → List Cell → Prop, k (f x) E0 → putCT ct x E0 fun E1 => tt E1 fun b E2 => if b = true then de E2 fun y E3 => k (some y) (wipeE E3 vs) else k none (wipeE E2 vs)) →
    acc.length + items.length ≤ sizeLine → done (acc ++ items.filterMap f) E0 → lcL ct tt de vs done items acc E0
  | [], acc, _, _, h => by rw [List.filterMap_nil, List.append_nil] at h; exact h
  | x :: r, acc, hs, hl, h => by
    rw [List.length_cons] at hl
    refine hs x List.mem_cons_self (fun o E => match o with
      | some y => acc.length < sizeLine ∧ lcL ct tt de vs done r (acc ++ [y]) E
      | none => lcL ct tt de vs done r acc E) ?_
    have hr := fun y hy => hs y (List.mem_cons_of_mem _ hy)
    cases e : f x with
    | some y =>
      refine ⟨by omega, lc_fm f E0 r _ hr (by rw [List.length_append, List.length_singleton]; omega) ?_⟩
      rw [List.filterMap_cons_some e] at h
      rw [List.append_assoc]
      exact h
    | none =>
      refine lc_fm f E0 r _ hr (by omega) ?_
      rw [List.filterMap_cons_none e] at h
      exact h
/-- a comprehension without tests: the items by f -/
theorem lc_map {ct : CT} {tt : DT} {de : DV} {vs : List Nat} {done : List D → List Cell → Prop} (f : D → D) (E0 : List Cell) (items : List D)
    (hs : ∀ x, x ∈ items → ∀ k : Option D → List Cell → Prop, k (some (f x)) E0 → putCT ct x E0 fun E1 => tt E1 fun b E2 => if b = true then de E2 fun y E3 => k (some y) (wipeE E3 vs) else k none (wipeE E2 vs))
    (hl : items.length ≤ sizeLine) (h : done (items.map f) E0) : lcL ct tt de vs done items [] E0 := by
  refine lc_fm (fun x => some (f x)) E0 items [] hs (by rw [List.length_nil]; omega) ?_
  rw [List.nil_append, List.filterMap_eq_map']
  exact h
end BD
set_option Elab.async false
set_option linter.all false
set_option maxRecDepth 100000
set_option maxHeartbeats 2000000
/-! BD: what _law_same and _law_pick are asked. -/
namespace BD
open PySem PySem.Spec PyProof.Rows L2
mutual
/-- answer, due: alike in kind and value, through lists and tuples -/
def sameD : D → D → Bool
  | .lst xs, .lst ys => sames xs ys
  | .tup xs, .tup ys => sames xs ys
  | .str x, .str y => x == y
  | .non, .non => true
  | .bl a, .bl b => a == b
  | .int a, .int b => a == b
  | _, _ => false
def sames : List D → List D → Bool
  | [], [] => true
  | x :: xs, y :: ys => sameD x y && sames xs ys
  | _, _ => false
end
def oks : Nat → D → Bool
  | _, .non => true
  | _, .bl _ => true
  | _, .int _ => true
  | _, .str _ => true
  | n + 1, .lst xs => decide (xs.length ≤ sizeLine) && xs.all (oks n)
  | n + 1, .tup xs => decide (xs.length ≤ sizeLine) && xs.all (oks n)
  | _, _ => false
theorem sames_all : ∀ (xs ys : List D), xs.length = ys.length → sames xs ys = ((List.range ys.length).map fun k => sameD (xs.getD k .non) (ys.getD k .non)).all id
  | [], [], _ => rfl
  | x :: xs, y :: ys, h => by
    rw [List.length_cons, List.length_cons] at h
    have ih := sames_all xs ys (by omega)
    rw [sames, ih, List.length_cons, List.range_succ_eq_map, List.map_cons, List.all_cons, List.map_map]
    rfl
  | [], _ :: _, h => by simp at h
  | _ :: _, [], h => by simp at h
theorem sames_len : ∀ (xs ys : List D), xs.length ≠ ys.length → sames xs ys = false
  | [], [], h => absurd rfl h
  | x :: xs, y :: ys, h => by
    rw [sames, sames_len xs ys (fun z => h (by rw [List.length_cons, List.length_cons, z])), Bool.and_false]
  | [], _ :: _, _ => rfl
  | _ :: _, [], _ => rfl
mutual
theorem sameD_refl : ∀ (n : Nat) (d : D), oks n d = true → sameD d d = true
  | _, .non, _ => rfl
  | _, .bl b, _ => by simp [sameD]
  | _, .int i, _ => by simp [sameD]
  | _, .str x, _ => by simp [sameD]
  | 0, .xt _, h => nomatch h
  | _ + 1, .xt _, h => nomatch h
  | 0, .ks _, h => nomatch h
  | _ + 1, .ks _, h => nomatch h
  | 0, .lst _, h => nomatch h
  | 0, .tup _, h => nomatch h
  | n + 1, .lst xs, h => by
    have h' : (decide (xs.length ≤ sizeLine) && xs.all (oks n)) = true := h
    rw [Bool.and_eq_true] at h'
    rw [sameD]
    exact sames_refl n xs h'.2
  | n + 1, .tup xs, h => by
    have h' : (decide (xs.length ≤ sizeLine) && xs.all (oks n)) = true := h
    rw [Bool.and_eq_true] at h'
    rw [sameD]
    exact sames_refl n xs h'.2
  | n, .dk _, h => by cases n <;> exact nomatch h
  | n, .dt _, h => by cases n <;> exact nomatch h
  | n, .scr _, h => by cases n <;> exact nomatch h
theorem sames_refl : ∀ (n : Nat) (xs : List D), xs.all (oks n) = true → sames xs xs = true
  | _, [], _ => rfl
  | n, x :: r, h => by
    rw [List.all_cons, Bool.and_eq_true] at h
    rw [sames, sameD_refl n x h.1, sames_refl n r h.2]
    rfl
end
theorem signs_at {z : Str} {j : Nat} {x : D} (h : (signsD z)[j]? = some x) : ∃ c, z.cps.toList[j]? = some c ∧ x = .str ⟨#[c]⟩ := by
  unfold signsD at h
  rw [List.getElem?_map] at h
  cases e : z.cps.toList[j]? with
  | none => rw [e] at h; cases h
  | some c => rw [e] at h; cases h; exact ⟨c, rfl, rfl⟩
theorem enumS_at {z : Str} {j : Nat} {x : D} (h : (enumD (signsD z))[j]? = some x) : ∃ c, z.cps.toList[j]? = some c ∧ x = .tup [.int (j : Nat), .str ⟨#[c]⟩] := by
  have hj : j < (enumD (signsD z)).length := by
    by_cases q : j < (enumD (signsD z)).length
    · exact q
    · rw [List.getElem?_eq_none (by omega)] at h; cases h
  rw [enumD_len] at hj
  obtain ⟨c, hc, e⟩ := signs_at (List.getElem?_eq_getElem hj)
  rw [enumD_get (List.getElem?_eq_getElem hj), e] at h
  cases h
  exact ⟨c, hc, rfl⟩
theorem range_at {lo : Int} {n j : Nat} {x : D} (h : (rangeD lo n)[j]? = some x) : j < n ∧ x = .int (lo + (j : Nat)) := by
  unfold rangeD at h
  rw [List.getElem?_map] at h
  by_cases q : j < n
  · rw [List.getElem?_range q] at h
    cases h
    exact ⟨q, rfl⟩
  · rw [List.getElem?_eq_none (by rw [List.length_range]; omega)] at h; cases h
theorem rangeD_len (lo : Int) (n : Nat) : (rangeD lo n).length = n := by unfold rangeD; rw [List.length_map, List.length_range]
theorem signsD_len (z : Str) : (signsD z).length = z.length := by unfold signsD; rw [List.length_map, Array.length_toList]; rfl
/-- a slot that holds nothing or data -/
def fv : Cell → Prop
  | .un => True
  | .val _ => True
  | _ => False
theorem fv.set {c : Cell} (h : fv c) : canSet c := by cases c <;> first | trivial | exact (show False from h).elim
theorem fv.bor {c : Cell} {r : List Cell} (h : fv c) : borOf (c :: r) = borOf r := by cases c <;> first | rfl | exact (show False from h).elim
/-- a parameter that is read -/
def AC (c : Cell) (d : D) : Prop := c = .val d ∨ c = .ro d
def F_same (n : Nat) : DF := fun cs post => ∃ c1 c2 a b, cs = [c1, c2] ∧ AC c1 a ∧ AC c2 b ∧ oks n a = true ∧ oks n b = true ∧ post (.val (.bl (sameD a b))) none
def F_pick : DF := fun cs post => ∃ (t : Nat) (d : D) (c : Cell) (xs : List D), cs = [.bor d, c] ∧ AC c (.lst xs) ∧ Pool t d ∧ t ≤ lineT ∧ xs ≠ [] ∧ xs.length ≤ sizeLine ∧ ∀ d' x, Pool (t + 1) d' → x ∈ xs → post (.val x) (some d')
end BD
set_option Elab.async false
set_option linter.all false
set_option maxRecDepth 100000
set_option maxHeartbeats 2000000
/-! BD: what the stepping words lean on. -/
namespace BD
open PySem PySem.Spec PyProof.Rows L2
def nbC : Cell → Prop
  | .bor _ => False
  | _ => True
def noBor : List Cell → Prop
  | [] => True
  | c :: r => nbC c ∧ noBor r
theorem fv.nb {c : Cell} (h : fv c) : nbC c := by cases c <;> first | trivial | exact (show False from h).elim
theorem bor_none : ∀ {cs : List Cell}, noBor cs → borOf cs = none
  | [], _ => rfl
  | c :: r, h => by
    have g := bor_none h.2
    cases c <;> first | exact (show False from h.1).elim | exact g
theorem fin_ok {post : R → Option D → Prop} {r : R} {cs : List Cell} (h : noBor cs) (k : post r none) : post r (borOf cs) := by
  rw [bor_none h]; exact k
theorem i_sz {n : Nat} (h : n ≤ 1000) : n ≤ sizeLine := Nat.le_trans h (by decide)
theorem sz_eq : sizeLine = 16777216 := by decide
theorem pool_mono {t u : Nat} {d : D} (h : Pool t d) (hu : t ≤ u) : Pool u d := by
  obtain ⟨ns, p, r, f, rfl, o⟩ := h
  exact ⟨ns, p, r, f, rfl, o.len, o.bits, o.p0, by have := o.pt; omega, o.r0, o.rb, o.f0, by have := o.ft; omega⟩
end BD
set_option Elab.async false
set_option linter.all false
set_option maxRecDepth 100000
set_option maxHeartbeats 2000000
/-! BD: walks over lists, tuples, texts by one rule; comprehensions with two clauses. -/
namespace BD
open PySem PySem.Spec PyProof.Rows L2
def iAnyT (K : PySem.W.Frag) (te : TE) : TI := fun σ H R => te σ H fun x H1 => (∃ a, x = .ref a ∧ (∃ xs, SqL K H1 a xs) ∧ R (Itl K a) H1) ∨ (∃ a, x = .ref a ∧ (∃ xs, SqT K H1 a xs) ∧ R (Itt K a) H1) ∨ ∃ z, x = .str z ∧ R (Its z) H1
theorem pi_anyT {X : Cx} {tg e : Expr} {te : TE} (he : PE X e te) : PI X tg e (iAnyT X.K te) := by
  refine ⟨fun pins s σ H R I h => ?_⟩
  refine thn (he.run pins s σ H _ I h) fun v s1 ⟨y, H1, I1, r1, q1⟩ => ?_
  have fp : ∀ b ∈ [s1.heap.objs.size], FpOk X pins H1 b := fun b hb => by
    rw [List.mem_singleton.mp hb]
    exact I1.fpOk (Nat.le_refl _) (I1.hok.fresh (Nat.le_refl _))
  rcases q1 with ⟨a, rfl, ⟨xs, hq⟩, q⟩ | ⟨a, rfl, ⟨xs, hq⟩, q⟩ | ⟨z, rfl, q⟩
  · cases r1
    obtain ⟨its, rv, pl, hz⟩ := I1.list hq
    exact wpAny_pyIter_list pl.isList ⟨s1.heap.objs.size, [s1.heap.objs.size], _, _, H1, rfl, I1.kept (t' := s1.toks) fun b o e => Heap.get?_push_of_some _ e, turn_list a _, ⟨_, Heap.get?_push_size _ rfl, rfl, rfl⟩, fp, q⟩
  · cases r1
    obtain ⟨its, rv, pl, hz⟩ := I1.tuple hq
    exact wpAny_pyIter_tuple (show s1.heap.IsTuple a its.toArray from pl) ⟨s1.heap.objs.size, [s1.heap.objs.size], _, _, H1, rfl, I1.kept (t' := s1.toks) fun b o e => Heap.get?_push_of_some _ e, turn_tuple a _, ⟨_, Heap.get?_push_size _ rfl, rfl, rfl⟩, fp, q⟩
  · obtain ⟨t, rfl⟩ := r1
    cases ha : z.cps.all (· < 128)
    · exact wpAny_pyIter_wide ha (pi_one (tk := s1.toks) I1 _ (turn_str _ z t "str_iterator" (.inr rfl)) ⟨_, Heap.get?_push_size _ rfl, rfl, rfl⟩ q)
    · exact wpAny_pyIter_ascii ha (pi_one (tk := s1.toks) I1 _ (turn_str _ z t "str_ascii_iterator" (.inl rfl)) ⟨_, Heap.get?_push_size _ rfl, rfl, rfl⟩ q)
def itemsOf : D → Option (List D)
  | .lst ds => some ds
  | .scr ns => some (ns.map .int)
  | .tup ds => some ds
  | .str z => some (signsD z)
  | _ => none
def iAny (da : DE) : DI := fun E Q => da E fun r E1 => walkOf E1 r fun d fin E2 => ∃ ds, itemsOf d = some ds ∧ Q ds fin E2
section
variable {X : Cx} {kt : Bool} {K : PySem.W.Frag} {S H S' H' S1 H1 S2 H2 S0 H0 : Hp} {σ σ1 σ2 σ0 : L2.St} {E E' E1 E2 E0 : List Cell} {v : V} {r : R} {i : Nat} {d : D} {a b c e tg : Expr} {da : DE} {dr : DR} {pos p : Pos}
/-- what a walk over d gives, d kept -/
theorem any_src {A : Addr → Prop} {ds : List D} {R : It → Hp → Prop} (e : Same S1 H1) (kp : Kept kt K S1 H1 A v d) (h : itemsOf d = some ds) (k : ∀ J, SrcOk kt K S1 H1 A J ds → R J H1) :
    (∃ a, v = .ref a ∧ (∃ xs, SqL K H1 a xs) ∧ R (Itl K a) H1) ∨ (∃ a, v = .ref a ∧ (∃ xs, SqT K H1 a xs) ∧ R (Itt K a) H1) ∨ ∃ z, v = .str z ∧ R (Its z) H1 := by
  cases d with
  | lst ds' =>
    cases h
    obtain ⟨p, vs, rfl, hp, _⟩ := kp.vw.lst e
    exact .inl ⟨p, rfl, ⟨vs, .of hp⟩, k _ (so_list kp)⟩
  | scr ns =>
    cases h
    obtain ⟨p, rfl, hp⟩ := kp.vw.scr e
    exact .inl ⟨p, rfl, ⟨_, hp⟩, k _ (so_scr kp)⟩
  | tup ds' =>
    cases h
    obtain ⟨p, vs, rfl, hp, _⟩ := kp.vw.tup e
    exact .inr (.inl ⟨p, rfl, ⟨vs, hp⟩, k _ (so_tup kp)⟩)
  | str z =>
    cases h
    exact .inr (.inr ⟨z, kp.vw.str, k _ so_str⟩)
  | _ => cases h
theorem si_any (ha : SE X kt a da) : SI_ X kt tg a (iAny da) := by
  obtain ⟨t, q, l⟩ := ha.ex
  refine ⟨_, pi_anyT q, fun S H σ E Q R I h k => l S H σ E _ _ I h fun S1 H1 E1 v r e1 q1 n1 h1 => ?_⟩
  obtain ⟨S2, E2, fin, d, pr, kp, ds, hd, h2⟩ := walk_ok I e1 q1 n1 h1
  exact any_src pr.si.ex kp hd fun J so => k _ _ _ J ds fin pr so h2

/-! ### quiet walks: the walked thing is no container of a slot that is ours -/
abbrev DQ := List Cell → (List D → List Cell → Prop) → Prop
/-- addresses that no slot owns, that stand outside S -/
structure BOk (kt : Bool) (K : PySem.W.Frag) (S H : Hp) (σ : L2.St) (E : List Cell) (B : Addr → Prop) : Prop where
  out : ∀ x, B x → S x = none
  alive : ∀ x, B x → H x ≠ none
  own : ∀ x, B x → ¬ ownA σ E x
  ro : ∀ x, B x → ∀ i d, nth E i = .ro d → σ[i]? = some (some (.ref x)) → Rp kt K S (.ref x) d
def LkQ (kt : Bool) (K : PySem.W.Frag) (wi : TI) (di : DQ) : Prop := ∀ (S H : Hp) (σ : L2.St) (E : List Cell) (Q : List D → List Cell → Prop) (R : It → Hp → Prop) (B : Addr → Prop), SI kt K S H σ E → BOk kt K S H σ E B → di E Q →
  (∀ S1 H1 E1 J items, Ev kt K S H σ E S1 H1 E1 → SrcOk kt K S1 H1 (fun a => ownA σ E1 a ∨ B a) J items → Q items E1 → R J H1) → wi σ H R
structure SQ_ (X : Cx) (kt : Bool) (tg iter : Expr) (d : DQ) : Prop where
  ex : ∃ wi, PI X tg iter wi ∧ LkQ kt X.K wi d
def quietOf (E : List Cell) (r : R) (k : D → Prop) : Prop := match r with
  | .val d => k d
  | .fr d => k d
  | .cell i => match nth E i with
    | .val d => k d
    | .ro d => k d
    | _ => False
def qAny (da : DE) : DQ := fun E Q => da E fun r E1 => quietOf E1 r fun d => ∃ ds, itemsOf d = some ds ∧ Q ds E1
theorem quiet_ok {B : Addr → Prop} {k : D → Prop} (I0 : SI kt K S0 H0 σ E0) (hB : BOk kt K S0 H0 σ E0 B) (e : Ev kt K S0 H0 σ E0 S H E) (q : RepR kt K S H σ E v r) (n : New H0 v r) (h : quietOf E r k) :
    ∃ S1 d, Ev kt K S0 H0 σ E0 S1 H E ∧ Kept kt K S1 H (fun a => ownA σ E a ∨ B a) v d ∧ k d := by
  cases r with
  | val d => exact ⟨S, d, e, .inl q, h⟩
  | fr d =>
    obtain ⟨p, o, rfl, h2, h3, h4, h5⟩ := q
    have e' := e.stay h4 h2 h3 (n p rfl)
    have le : Same S (upd S p o) := fun b u z => by rw [upd_ne (ne_of_none z h2)]; exact z
    exact ⟨_, d, e', .inl ((h5.mono (le_of le)).rp upd_same), h⟩
  | cell i =>
    obtain ⟨h1, h2⟩ := q
    have h' : (match nth E i with | .val d => k d | .ro d => k d | _ => False) := h
    cases z : nth E i with
    | un => exact absurd z h2
    | val d =>
      rw [z] at h'
      obtain ⟨w, a1, a2⟩ := e.si.val i d z
      rw [h1] at a1; cases a1
      exact ⟨S, d, e, .inl a2, h'⟩
    | ro d =>
      rw [z] at h'
      obtain ⟨w, a1, a2⟩ := e.si.ro i d z
      rw [h1] at a1; cases a1
      refine ⟨S, d, e, ?_, h'⟩
      rcases a2 with a2 | ⟨p, o, rfl, b2, b3, b4⟩
      · exact .inl a2
      · by_cases hp : B p
        · have c := e.cells i
          rw [z] at c
          exact .inl ((hB.ro p hp i d c.ro_of h1).mono (le_of e.fr.ex))
        · exact .inr ⟨p, o, rfl, b2, fun y => y.elim b4 hp, b3⟩
    | own d => rw [z] at h'; exact (show False from h').elim
    | bor d => rw [z] at h'; exact (show False from h').elim
theorem sq_any (ha : SE X kt a da) : SQ_ X kt tg a (qAny da) := by
  obtain ⟨t, q, l⟩ := ha.ex
  refine ⟨_, pi_anyT q, fun S H σ E Q R B I hB h k => l S H σ E _ _ I h fun S1 H1 E1 v r e1 q1 n1 h1 => ?_⟩
  obtain ⟨S2, d, e2, kp, ds, hd, h2⟩ := quiet_ok I hB e1 q1 n1 h1
  exact any_src e2.si.ex kp hd fun J so => k _ _ _ J ds e2 so h2
def qR1 (dr : DR) : DQ := fun E Q => dr E fun rs E1 => vws E1 rs fun ds => match ds with
  | [.int j] => (-(2 ^ 62) ≤ j ∧ j < 2 ^ 62) ∧ Q (rangeD 0 j.toNat) E1
  | _ => False
def qR2 (dr : DR) : DQ := fun E Q => dr E fun rs E1 => vws E1 rs fun ds => match ds with
  | [.int i, .int j] => (-(2 ^ 62) ≤ i ∧ i < 2 ^ 62 ∧ -(2 ^ 62) ≤ j ∧ j < 2 ^ 62) ∧ Q (rangeD i (j - i).toNat) E1
  | _ => False
theorem sq_range1 (hg : Gl X "range") (hm : X.mg "range" = none) (ha : SR X kt [a] dr) (hs : starEach [a] X.env = [(false, eval a X.env)] := by rfl) : SQ_ X kt tg (.Call (.Name "range" p) [a] [] pos) (qR1 dr) := by
  obtain ⟨t, q, l⟩ := ha.ex
  refine ⟨_, pi_range1 hg hm q hs, fun S H σ E Q R B I hB h k => l S H σ E _ _ I h fun S1 H1 E1 vs rs e1 q1 n1 h1 => ?_⟩
  obtain ⟨ds, ws, h2⟩ := vws_ok e1.si q1 h1
  match ds, ws, h2 with
  | [.int j], ws, h2 =>
    obtain ⟨v, rfl, w⟩ := ws.one
    cases w.int
    exact ⟨j, rfl, h2.1.1, h2.1.2, k _ _ _ _ _ e1 (so_rD walk_range fun _ _ => .int _) h2.2⟩
theorem sq_range2 (hg : Gl X "range") (hm : X.mg "range" = none) (ha : SR X kt [a, b] dr) (hs : starEach [a, b] X.env = [(false, eval a X.env), (false, eval b X.env)] := by rfl) (hs2 : starEach [b] X.env = [(false, eval b X.env)] := by rfl) : SQ_ X kt tg (.Call (.Name "range" p) [a, b] [] pos) (qR2 dr) := by
  obtain ⟨t, q, l⟩ := ha.ex
  refine ⟨_, pi_range2 hg hm q hs hs2, fun S H σ E Q R B I hB h k => l S H σ E _ _ I h fun S1 H1 E1 vs rs e1 q1 n1 h1 => ?_⟩
  obtain ⟨ds, ws, h2⟩ := vws_ok e1.si q1 h1
  match ds, ws, h2 with
  | [.int i, .int j], ws, h2 =>
    obtain ⟨v, w', rfl, w, w2⟩ := ws.two
    cases w.int
    cases w2.int
    exact ⟨i, j, rfl, h2.1, k _ _ _ _ _ e1 (so_rD walk_range fun _ _ => .int _) h2.2⟩
end
end BD
set_option Elab.async false
set_option linter.all false
set_option maxRecDepth 100000
set_option maxHeartbeats 4000000
/-! BD: comprehensions with two clauses. -/
namespace BD
open PySem PySem.Spec PyProof.Rows L2
def lcL2 (ct : CT) (tt : DT) (src1 : DQ) (ct1 : CT) (tt1 : DT) (de : DV) (vs vs1 : List Nat) (done : List D → List Cell → Prop) : List D → List D → List Cell → Prop
  | [], acc, E => done acc E
  | x :: r, acc, E => putCT ct x E fun E1 => tt E1 fun b E2 => if b = true then src1 E2 fun items1 E3 => lcL ct1 tt1 de vs1 (fun acc' E4 => lcL2 ct tt src1 ct1 tt1 de vs vs1 done r acc' (wipeE E4 vs)) items1 acc (wipeE E3 vs1) else lcL2 ct tt src1 ct1 tt1 de vs vs1 done r acc (wipeE E2 vs)
def dLc2 (src : DI) (ct : CT) (vs : List Nat) (tt : DT) (src1 : DQ) (ct1 : CT) (vs1 : List Nat) (tt1 : DT) (de : DE) : DE := fun E Q => src E fun items fin E1 => lcL2 ct tt src1 ct1 tt1 (dFz de) vs vs1 (fun acc E2 => fin (restore E1 E2 vs) fun E3 => Q (.fr (.lst acc)) E3) items [] (wipeE E1 vs)
def tOfQ (kt : Bool) (K : PySem.W.Frag) (d : DQ) : TI := fun σ H R => ∃ S E Qd B, SI kt K S H σ E ∧ BOk kt K S H σ E B ∧ d E Qd ∧ ∀ S1 H1 E1 J items, Ev kt K S H σ E S1 H1 E1 → SrcOk kt K S1 H1 (fun a => ownA σ E1 a ∨ B a) J items → Qd items E1 → R J H1
section
variable {X : Cx} {kt : Bool} {K : PySem.W.Frag} {S H S' H' S1 H1 S2 H2 S3 H3 S0 H0 : Hp} {σ σ1 σ2 σ0 : L2.St} {E E' E1 E2 E3 E0 : List Cell} {v : V} {r : R} {i : Nat} {d : D} {e tg iter tg1 iter1 : Expr} {dt dt1 : DT} {de : DE} {di : DI} {di1 : DQ} {pos : Pos}
theorem SQ_.canon (h : SQ_ X kt tg iter di1) : PI X tg iter (tOfQ kt X.K di1) := by
  obtain ⟨t, p, l⟩ := h.ex
  exact ⟨fun pins s σ H Q I ⟨S, E, Qd, B, si, hB, hd, k⟩ => p.run pins s σ H Q I (l S H σ E Qd Q B si hB hd k)⟩
theorem nth_wipe_in {vs : List Nat} {j : Nat} (h : j ∈ vs) : nth (wipeE E vs) j = .un := by rw [nth_wipe, if_pos h]
theorem nth_wipe_out {vs : List Nat} {j : Nat} (h : j ∉ vs) : nth (wipeE E vs) j = nth E j := by rw [nth_wipe, if_neg h]
theorem wipe_sub (σ : L2.St) {vs : List Nat} : ∀ (ws : List Nat), (∀ j ∈ ws, j ∈ vs) → L2.wipe (L2.wipe σ ws) vs = L2.wipe σ vs
  | [], _ => rfl
  | w :: ws, h => by
    show L2.wipe ((L2.wipe σ ws).set w none) vs = L2.wipe σ vs
    rw [wipe_set (h w List.mem_cons_self)]
    exact wipe_sub σ ws fun j hj => h j (List.mem_cons_of_mem _ hj)
/-- the steps of one who may change one new object, behind those that made it -/
theorem Fr.transB {A A1 A2 B : Addr → Prop} (a : Fr S H A S1 H1 A1) (hB : ∀ x, B x → H x = none) (b : Fr S1 H1 (fun x => A1 x ∨ B x) S2 H2 A2) : Fr S H A S2 H2 A2 where
  ex := a.ex.trans b.ex
  keep := fun x o h n => b.keep x o (a.keep x o h n) fun z => z.elim (fun z => (a.own x z).elim n fun q => by rw [q] at h; cases h) fun z => by rw [hB x z] at h; cases h
  free := fun x h s n => b.free x (a.alive x h) (a.free x h s n) fun z => z.elim (fun z => (a.own x z).elim n h) fun z => h (hB x z)
  own := fun x z => (b.own x z).elim (fun z => z.elim (a.own x) fun z => .inr (hB x z)) fun q => .inr (by
    cases e : H x with
    | none => rfl
    | some o => exact absurd q (a.alive x (by rw [e]; exact fun z => nomatch z)))
  alive := fun x h => b.alive x (a.alive x h)
theorem Fr.updIn {A A2 : Addr → Prop} {q : Addr} {o : HO} (F : Fr S H A S1 H1 A2) (h : A q) : Fr S H A S1 (upd H1 q o) A2 := ⟨F.ex, fun a u h1 h2 => by
    rw [upd_ne (show a ≠ q from fun z => h2 (by rw [z]; exact h))]
    exact F.keep a u h1 h2, F.free, F.own, fun a h1 => by
    by_cases e : a = q
    · subst e; rw [upd_same]; exact fun z => nomatch z
    · rw [upd_ne e]; exact F.alive a h1⟩
theorem own_wipe {vs : List Nat} {a : Addr} (h : ownA (L2.wipe σ vs) (wipeE E vs) a) : ownA σ E a := by
  obtain ⟨j, y, _, g1, g2⟩ := ownA_wipe h
  exact ⟨j, y, g1, g2⟩
theorem fill_own {vs : List Nat} (f : Filled kt K S H vs σ E σ2 E2) (un : ∀ j ∈ vs, nth E j = .un) {a : Addr} (h : ownA σ2 E2 a) : ownA σ E a := by
  obtain ⟨j, y, hj, hσ⟩ := h
  by_cases hm : j ∈ vs
  · rcases f.ins j hm with z | ⟨z, hz⟩
    · rw [z, un j hm] at hj; rcases hj with q | q <;> cases q
    · rw [hz] at hj; rcases hj with q | q <;> cases q
  · rw [(f.out j hm).2] at hj
    rw [(f.out j hm).1] at hσ
    exact ⟨j, y, hj, hσ⟩
theorem fill_ro {vs : List Nat} (f : Filled kt K S H vs σ E σ2 E2) (un : ∀ j ∈ vs, nth E j = .un) {j : Nat} {x : D} (h : nth E2 j = .ro x) : j ∉ vs ∧ nth E j = .ro x ∧ σ2[j]? = σ[j]? := by
  have hm : j ∉ vs := fun hm => by
    rcases f.ins j hm with z | ⟨y, z⟩
    · rw [z, un j hm] at h; cases h
    · rw [z] at h; cases h
  exact ⟨hm, (f.out j hm).2 ▸ h, (f.out j hm).1⟩
/-- what is known of the list that is made: no slot's, newer than S, no locked slot reads it but as data that stays -/
structure Mine (kt : Bool) (K : PySem.W.Frag) (S H : Hp) (σ : L2.St) (E : List Cell) (q : Addr) (acc : List D) : Prop where
  rep : RepR kt K S H σ E (.ref q) (.fr (.lst acc))
  ro : ∀ j x, nth E j = .ro x → σ[j]? = some (some (.ref q)) → Rp kt K S (.ref q) x
theorem Mine.get {q : Addr} {acc : List D} (m : Mine kt K S H σ E q acc) : S q = none ∧ ¬ ownA σ E q ∧ ∃ vs, H q = some (.lst vs) ∧ RpL kt K S vs acc := by
  obtain ⟨p, o, e, h1, h2, h3, vs, rfl, h4⟩ := m.rep
  cases e
  exact ⟨h1, h2, vs, h3, h4⟩
theorem Mine.bok {q : Addr} {acc : List D} (m : Mine kt K S H σ E q acc) : BOk kt K S H σ E fun x => x = q := by
  obtain ⟨h1, h2, vs, h3, h4⟩ := m.get
  exact ⟨(fun x e => by rw [show x = q from e]; exact h1), (fun x e => by rw [show x = q from e, h3]; exact fun z => nomatch z), (fun x e => by rw [show x = q from e]; exact h2), (fun x e i d hi hσ => by cases (show x = q from e); exact m.ro i d hi hσ)⟩
theorem Mine.step {q : Addr} {acc : List D} (m : Mine kt K S H σ E q acc) (e : Ev kt K S H σ E S1 H1 E1) : Mine kt K S1 H1 σ E1 q acc :=
  ⟨m.rep.step e, fun j x hj hσ => by
    have := e.cells j
    rw [hj] at this
    exact (m.ro j x this.ro_of hσ).mono (le_of e.fr.ex)⟩
theorem Mine.app {q : Addr} {acc : List D} {y : D} {w : V} (m : Mine kt K S H σ E q acc) (I : SI kt K S H σ E) (hw : Rp kt K S w y) :
    ∃ vs, H q = some (.lst vs) ∧ vs.length = acc.length ∧ SI kt K S (upd H q (.lst (vs ++ [w]))) σ E ∧ Mine kt K S (upd H q (.lst (vs ++ [w]))) σ E q (acc ++ [y]) := by
  obtain ⟨h1, h2, vs, h3, h4⟩ := m.get
  refine ⟨vs, h3, h4.length, I.updT h1 h2 fun j x u hj hσ hu => ?_, ⟨⟨q, _, rfl, h1, h2, upd_same, _, rfl, h4.append (.cons hw .nil)⟩, m.ro⟩⟩
  subst hu
  exact m.ro j x hj hσ
theorem Mine.wipe {q : Addr} {acc : List D} (m : Mine kt K S H σ E q acc) (vs : List Nat) : Mine kt K S H (L2.wipe σ vs) (wipeE E vs) q acc := by
  obtain ⟨h1, h2, us, h3, h4⟩ := m.get
  refine ⟨⟨q, _, rfl, h1, fun z => h2 (own_wipe z), h3, us, rfl, h4⟩, fun j x hj hσ => ?_⟩
  rw [nth_wipe] at hj
  by_cases hm : j ∈ vs
  · rw [if_pos hm] at hj; cases hj
  · rw [if_neg hm] at hj
    rw [get_wipe hm] at hσ
    exact m.ro j x hj hσ
theorem Mine.fill {q : Addr} {acc : List D} {vs : List Nat} (m : Mine kt K S H σ E q acc) (f : Filled kt K S H vs σ E σ2 E2) (un : ∀ j ∈ vs, nth E j = .un) : Mine kt K S H σ2 E2 q acc := by
  obtain ⟨h1, h2, us, h3, h4⟩ := m.get
  refine ⟨⟨q, _, rfl, h1, fun z => h2 (fill_own f un z), h3, us, rfl, h4⟩, fun j x hj hσ => ?_⟩
  obtain ⟨a, b, c⟩ := fill_ro f un hj
  rw [c] at hσ
  exact m.ro j x b hσ
theorem cells_wipe (c : ∀ j, CellStep (nth E j) (nth E1 j)) (vs : List Nat) : ∀ j, CellStep (nth (wipeE E vs) j) (nth (wipeE E1 vs) j) := fun j => by
  rw [nth_wipe, nth_wipe]
  by_cases hm : j ∈ vs
  · rw [if_pos hm, if_pos hm]; exact .refl _
  · rw [if_neg hm, if_neg hm]; exact c j
/-- a step within a turn, wiped: the cells as before the turn -/
theorem turn_cells {vs : List Nat} (un : ∀ j ∈ vs, nth E j = .un) (f : Filled kt K S H vs σ E σ2 E2) (c : ∀ j, CellStep (nth E2 j) (nth E3 j)) : ∀ j, CellStep (nth E j) (nth (wipeE E3 vs) j) := fun j => by
  rw [nth_wipe]
  by_cases hm : j ∈ vs
  · rw [if_pos hm, un j hm]; rfl
  · rw [if_neg hm]
    have := c j
    rw [(f.out j hm).2] at this
    exact this
theorem lc2_lk {wi : TI} {ct ct1 : CT} {vs vs1 : List Nat} (li : LkI kt K wi di) (hct : ∀ j ∈ ct.slots, j ∈ vs) (hct1 : ∀ j ∈ ct1.slots, j ∈ vs1) (hv : ∀ j ∈ vs1, j ∈ vs) :
    LkE kt K (tLc2 wi (gCT K ct) (tOfT kt K dt) (tOfQ kt K di1) (gCT K ct1) (tOfT kt K dt1) (tOfV kt K (dFz de)) vs vs1) (dLc2 di ct vs dt di1 ct1 vs1 dt1 de) := by
  intro S H σ E Q Q' I h k
  refine li S H σ E _ _ I h fun S1 H1 E1 J items fin pr so h1 => ?_
  intro D_ hD1
  have Ib := pr.si.wipe vs
  let done : List D → List Cell → Prop := fun acc E2 => fin (restore E1 E2 vs) fun E3 => Q (.fr (.lst acc)) E3
  let Inv3 (i : Nat) (H3 : Hp) : Prop := ∃ S3 E3 acc, SI kt K S3 H3 (L2.wipe σ vs) E3 ∧ Fr S1 H1 (ownA (L2.wipe σ vs) (wipeE E1 vs)) S3 H3 (ownA (L2.wipe σ vs) E3) ∧ (∀ j, CellStep (nth (wipeE E1 vs) j) (nth E3 j)) ∧
    Mine kt K S3 H3 (L2.wipe σ vs) E3 D_ acc ∧ lcL2 ct dt di1 ct1 dt1 (dFz de) vs vs1 done (items.drop i) acc E3
  have m0 : Mine kt K S1 (upd H1 D_ (.lst [])) (L2.wipe σ vs) (wipeE E1 vs) D_ [] := ⟨⟨D_, _, rfl, Ib.none hD1, fun z => ownA_alive Ib z hD1, upd_same, [], rfl, .nil⟩, fun j x hj hσ => by
    obtain ⟨w, b1, b2⟩ := Ib.ro j x hj
    rw [hσ] at b1; cases b1
    rcases b2 with b2 | ⟨p, u, e1, b3, _, _⟩
    · exact b2
    · cases e1
      rcases b3 with b3 | ⟨⟨_, b3⟩, _⟩ <;> (rw [hD1] at b3; cases b3)⟩
  refine ⟨fun i m H3 => m = items.length - i ∧ i ≤ items.length ∧ Inv3 i H3, ⟨items.length, by simp, Nat.zero_le _, S1, wipeE E1 vs, [], Ib.alloc hD1, Fr.refl.updNew hD1, fun _ => .refl _, m0, h1⟩, ?_⟩
  rintro i m H3 ⟨rfl, hi', S3, E3, acc, I3, F3, c3, mn3, w3⟩
  have F3' : Fr S1 H1 (ownA σ E1) S3 H3 (ownA (L2.wipe σ vs) E3) := F3.weak fun _ z => own_wipe z
  by_cases hlt : i < items.length
  · refine .inr ⟨so.goes S3 H3 _ E3 I3 F3' i hlt, Inv3 (i + 1), fun H' z => ⟨items.length - (i + 1), by omega, rfl, hlt, z⟩, fun x H4 y => ?_⟩
    obtain ⟨S4, dx, hd, e4, r4⟩ := so.yields S3 H3 _ E3 I3 F3' i x H4 hlt y
    have hdrop : items.drop i = dx :: items.drop (i + 1) := by
      rw [List.drop_eq_getElem_cons hlt]
      have : items[i] = dx := by rw [List.getElem?_eq_getElem hlt] at hd; exact Option.some.inj hd
      rw [this]
    rw [hdrop] at w3
    have un3 : ∀ j, j ∈ vs → nth E3 j = .un := fun j hj => by
      have := c3 j
      rw [nth_wipe, if_pos hj] at this
      exact this
    refine gCT_ok (vs := vs) hct e4.si r4 w3 fun σ5 E5 f5 h5 => ⟨f5.wip.trans (wipe_wipe σ vs), ?_⟩
    have un4 : ∀ j, j ∈ vs → nth E3 j = .un := un3
    have F5 : Fr S1 H1 (ownA (L2.wipe σ vs) (wipeE E1 vs)) S4 H4 (ownA σ5 E5) := (F3.trans e4.fr).less fun a z => fill_own f5 un3 z
    have mn5 : Mine kt K S4 H4 σ5 E5 D_ acc := (mn3.step e4).fill f5 un3
    refine ⟨S4, E5, _, f5.si, h5, fun S6 H6 E6 b e6 h6 => ?_⟩
    have hw5 : L2.wipe σ5 vs = L2.wipe σ vs := f5.wip.trans (wipe_wipe σ vs)
    cases b with
    | false =>
      rw [if_neg Bool.false_ne_true] at h6
      dsimp only
      rw [if_neg Bool.false_ne_true]
      have I9 := e6.si.wipe vs
      rw [hw5] at I9
      have mn := (mn5.step e6).wipe vs
      rw [hw5] at mn
      refine ⟨S6, wipeE E6 vs, acc, I9, (F5.trans e6.fr).less fun a z => ?_, fun j => (c3 j).trans (turn_cells un3 f5 e6.cells j), mn, h6⟩
      rw [← hw5] at z
      exact own_wipe z
    | true =>
      rw [if_pos rfl] at h6
      dsimp only
      rw [if_pos rfl]
      have mn6 := mn5.step e6
      refine ⟨S6, E6, _, _, e6.si, mn6.bok, h6, fun S7 H7 E7 J1 items1 e7 so1 h7 => ?_⟩
      have e67 := e6.trans e7
      have mn7 := mn6.step e7
      have F7 : Fr S1 H1 (ownA (L2.wipe σ vs) (wipeE E1 vs)) S7 H7 (ownA σ5 E7) := F5.trans e67.fr
      let Inv1 (j : Nat) (H8 : Hp) : Prop := ∃ S8 E8 acc8, SI kt K S8 H8 (L2.wipe σ5 vs1) E8 ∧ Fr S7 H7 (fun a => ownA (L2.wipe σ5 vs1) (wipeE E7 vs1) a ∨ a = D_) S8 H8 (ownA (L2.wipe σ5 vs1) E8) ∧ (∀ j, CellStep (nth (wipeE E7 vs1) j) (nth E8 j)) ∧
        Mine kt K S8 H8 (L2.wipe σ5 vs1) E8 D_ acc8 ∧ lcL ct1 dt1 (dFz de) vs1 (fun acc' E4 => lcL2 ct dt di1 ct1 dt1 (dFz de) vs vs1 done (items.drop (i + 1)) acc' (wipeE E4 vs)) (items1.drop j) acc8 E8
      refine ⟨fun j m H8 => m = items1.length - j ∧ j ≤ items1.length ∧ Inv1 j H8, ⟨items1.length, by simp, Nat.zero_le _, S7, wipeE E7 vs1, acc, e7.si.wipe vs1, Fr.refl.less fun a z => .inl z, fun _ => .refl _, mn7.wipe vs1, h7⟩, ?_⟩
      rintro j m8 H8 ⟨rfl, hj', S8, E8, acc8, I8, F8, c8, mn8, w8⟩
      have F8' : Fr S7 H7 (fun a => ownA σ5 E7 a ∨ a = D_) S8 H8 (ownA (L2.wipe σ5 vs1) E8) := F8.weak fun a z => z.elim (fun z => .inl (own_wipe z)) .inr
      by_cases hlt1 : j < items1.length
      · refine .inr ⟨so1.goes S8 H8 _ E8 I8 F8' j hlt1, Inv1 (j + 1), fun H' z => ⟨items1.length - (j + 1), by omega, rfl, hlt1, z⟩, fun x1 H9 y1 => ?_⟩
        obtain ⟨S9, dx1, hd1, e9, r9⟩ := so1.yields S8 H8 _ E8 I8 F8' j x1 H9 hlt1 y1
        have hdrop1 : items1.drop j = dx1 :: items1.drop (j + 1) := by
          rw [List.drop_eq_getElem_cons hlt1]
          have : items1[j] = dx1 := by rw [List.getElem?_eq_getElem hlt1] at hd1; exact Option.some.inj hd1
          rw [this]
        rw [hdrop1] at w8
        have un8 : ∀ q, q ∈ vs1 → nth E8 q = .un := fun q hq => by
          have := c8 q
          rw [nth_wipe, if_pos hq] at this
          exact this
        refine gCT_ok (vs := vs1) hct1 e9.si r9 w8 fun σa Ea fa ha => ⟨fa.wip.trans (wipe_wipe σ5 vs1), ?_⟩
        have hwa : L2.wipe σa vs1 = L2.wipe σ5 vs1 := fa.wip.trans (wipe_wipe σ5 vs1)
        have Fa : Fr S7 H7 (fun a => ownA (L2.wipe σ5 vs1) (wipeE E7 vs1) a ∨ a = D_) S9 H9 (ownA σa Ea) := (F8.trans e9.fr).less fun a z => fill_own fa un8 z
        have mna : Mine kt K S9 H9 σa Ea D_ acc8 := (mn8.step e9).fill fa un8
        refine ⟨S9, Ea, _, fa.si, ha, fun Sb Hb Eb b1 eb hb => ?_⟩
        cases b1 with
        | false =>
          rw [if_neg Bool.false_ne_true] at hb
          rw [if_neg Bool.false_ne_true]
          have I9 := eb.si.wipe vs1
          rw [hwa] at I9
          have mn := (mna.step eb).wipe vs1
          rw [hwa] at mn
          refine ⟨Sb, wipeE Eb vs1, acc8, I9, (Fa.trans eb.fr).less fun a z => ?_, fun q => (c8 q).trans (turn_cells un8 fa eb.cells q), mn, hb⟩
          rw [← hwa] at z
          exact own_wipe z
        | true =>
          rw [if_pos rfl] at hb
          rw [if_pos rfl]
          refine ⟨Sb, Eb, _, eb.si, hb, fun Sc Hc Ec yv yd ec ry hc => ?_⟩
          have ebc := eb.trans ec
          obtain ⟨av, g1, g2, Ic, mnc⟩ := (mna.step ebc).app ebc.si ry
          refine ⟨av, g1, by rw [g2]; exact hc.1, ?_⟩
          have I9 := Ic.wipe vs1
          rw [hwa] at I9
          have mn := mnc.wipe vs1
          rw [hwa] at mn
          refine ⟨Sc, wipeE Ec vs1, _, I9, (((Fa.trans ebc.fr).updIn (.inr rfl)).less fun a z => ?_), fun q => (c8 q).trans (turn_cells un8 fa ebc.cells q), mn, hc.2⟩
          rw [← hwa] at z
          exact own_wipe z
      · have ej : j = items1.length := by omega
        subst ej
        rw [List.drop_length] at w8
        refine .inl ⟨so1.stops S8 H8 _ E8 I8 F8', ?_⟩
        have hw8 : L2.wipe (L2.wipe σ5 vs1) vs = L2.wipe σ vs := (wipe_sub σ5 vs1 hv).trans hw5
        have I9 := I8.wipe vs
        rw [hw8] at I9
        have mn := mn8.wipe vs
        rw [hw8] at mn
        have F9 : Fr S1 H1 (ownA (L2.wipe σ vs) (wipeE E1 vs)) S8 H8 (ownA (L2.wipe σ5 vs1) E8) := F7.transB (B := fun x => x = D_) (fun x z => by rw [show x = D_ from z]; exact hD1) (F8.weak fun a z => z.elim (fun z => .inl (own_wipe z)) .inr)
        refine ⟨S8, wipeE E8 vs, acc8, I9, F9.less fun a z => ?_, fun q => (c3 q).trans ?_, mn, w8⟩
        · rw [← hw8] at z
          exact own_wipe z
        · rw [nth_wipe]
          by_cases hm : q ∈ vs
          · rw [if_pos hm, un3 q hm]; rfl
          · rw [if_neg hm]
            have a1 := e67.cells q
            rw [(f5.out q hm).2] at a1
            have a2 := c8 q
            rw [nth_wipe, if_neg fun z => hm (hv q z)] at a2
            exact a1.trans a2
  · have ei : i = items.length := by omega
    subst ei
    rw [List.drop_length] at w3
    exact .inl ⟨so.stops S3 H3 _ E3 I3 F3', restored_lc I pr hD1 I3 F3 c3 mn3.rep w3 k⟩
theorem se_lc2 {elt : Expr} {ifs ifs1 : List Expr} {scope : Scope} {own : List (Str × Nat)} {ct ct1 : CT} {vs1 : List Nat} (hc : X.calm = true) (hN : X.N.Nodup) (hi : SI_ X kt tg iter di) (ok : BlkOk X.N X.env.scope scope own) (hct : ∀ j ∈ ct.slots, j ∈ own.map (·.2)) (hct1 : ∀ j ∈ ct1.slots, j ∈ vs1) (hv : ∀ j ∈ vs1, j ∈ own.map (·.2))
    (hg : ∀ (s : Shared) (H : Hp) (C : Addr) (cl : List (Str × Addr)) (fp : List Addr), PG (X.blk s H scope (compEnvC scope cl C X.env) fp) tg (gCT X.K ct)) (ht : ∀ (s : Shared) (H : Hp) (C : Addr) (cl : List (Str × Addr)) (fp : List Addr), STs (X.blk s H scope (compEnvC scope cl C X.env) fp) kt ifs dt)
    (hi1 : ∀ (s : Shared) (H : Hp) (C : Addr) (cl : List (Str × Addr)) (fp : List Addr), SQ_ (X.blk s H scope (compEnvC scope cl C X.env) fp) kt tg1 iter1 di1)
    (hg1 : ∀ (s : Shared) (H : Hp) (C : Addr) (cl : List (Str × Addr)) (fp : List Addr), PG (X.blk s H scope (compEnvC scope cl C X.env) fp) tg1 (gCT X.K ct1)) (ht1 : ∀ (s : Shared) (H : Hp) (C : Addr) (cl : List (Str × Addr)) (fp : List Addr), STs (X.blk s H scope (compEnvC scope cl C X.env) fp) kt ifs1 dt1)
    (he : ∀ (s : Shared) (H : Hp) (C : Addr) (cl : List (Str × Addr)) (fp : List Addr), SE (X.blk s H scope (compEnvC scope cl C X.env) fp) kt e de) (hs : ∀ x, foldedSetIterable iter X.env x = pure x := by intro _; rfl) (hs1 : ∀ env x, foldedSetIterable iter1 env x = pure x := by intro _ _; rfl) :
    SE X kt (.ListComp e [⟨tg, iter, ifs, 0⟩, ⟨tg1, iter1, ifs1, 0⟩] scope pos) (dLc2 di ct (own.map (·.2)) dt di1 ct1 vs1 dt1 de) := by
  obtain ⟨wi, pi, li⟩ := hi.ex
  exact ⟨_, pe_lc2 (tt := tOfT kt X.K dt) (wi1 := tOfQ kt X.K di1) (tt1 := tOfT kt X.K dt1) (te := tOfV kt X.K (dFz de)) hc hN pi ok hv hg (fun s H C cl fp => (ht s H C cl fp).canon) (fun s H C cl fp => (hi1 s H C cl fp).canon) hg1 (fun s H C cl fp => (ht1 s H C cl fp).canon) (fun s H C cl fp => (fz (he s H C cl fp)).canon) hs hs1, lc2_lk li hct hct1 hv⟩
/-- name = [.. for .. for ..], the name a local -/
theorem ss_setLc2 {ifs ifs1 : List Expr} {scope : Scope} {own : List (Str × Nat)} {ct ct1 : CT} {vs1 : List Nat} (i : Nat) {y : Str} {py spos : Pos} {g : DG} (hc : X.calm = true) (hN : X.N.Nodup) (hy : X.N[i]? = some y) (hyl : X.env.scope.names.lookup y = some .local) (hgd : LkG kt X.K (gName i) g)
    (hsw : swapsWith (.ListComp e [⟨tg, iter, ifs, 0⟩, ⟨tg1, iter1, ifs1, 0⟩] scope pos) (some (.Name y py)) spos.line X.env = pure true) (hi : SI_ X kt tg iter di) (ok : BlkOk X.N X.env.scope scope own) (hct : ∀ j ∈ ct.slots, j ∈ own.map (·.2)) (hct1 : ∀ j ∈ ct1.slots, j ∈ vs1) (hv : ∀ j ∈ vs1, j ∈ own.map (·.2))
    (hg : ∀ (s : Shared) (H : Hp) (C : Addr) (cl : List (Str × Addr)) (fp : List Addr), PG (X.blk s H scope (compEnvC scope cl C X.env) fp) tg (gCT X.K ct)) (ht : ∀ (s : Shared) (H : Hp) (C : Addr) (cl : List (Str × Addr)) (fp : List Addr), STs (X.blk s H scope (compEnvC scope cl C X.env) fp) kt ifs dt)
    (hi1 : ∀ (s : Shared) (H : Hp) (C : Addr) (cl : List (Str × Addr)) (fp : List Addr), SQ_ (X.blk s H scope (compEnvC scope cl C X.env) fp) kt tg1 iter1 di1)
    (hg1 : ∀ (s : Shared) (H : Hp) (C : Addr) (cl : List (Str × Addr)) (fp : List Addr), PG (X.blk s H scope (compEnvC scope cl C X.env) fp) tg1 (gCT X.K ct1)) (ht1 : ∀ (s : Shared) (H : Hp) (C : Addr) (cl : List (Str × Addr)) (fp : List Addr), STs (X.blk s H scope (compEnvC scope cl C X.env) fp) kt ifs1 dt1)
    (he : ∀ (s : Shared) (H : Hp) (C : Addr) (cl : List (Str × Addr)) (fp : List Addr), SE (X.blk s H scope (compEnvC scope cl C X.env) fp) kt e de) (hs : ∀ x, foldedSetIterable iter X.env x = pure x := by intro _; rfl) (hs1 : ∀ env x, foldedSetIterable iter1 env x = pure x := by intro _ _; rfl) :
    SS X kt (.Assign [.Name y py] (.ListComp e [⟨tg, iter, ifs, 0⟩, ⟨tg1, iter1, ifs1, 0⟩] scope pos) spos) (sAsg (dLc2 di ct (own.map (·.2)) dt di1 ct1 vs1 dt1 de) g) := by
  obtain ⟨wi, pi, li⟩ := hi.ex
  refine ⟨_, ps_setLc2 (tt := tOfT kt X.K dt) (wi1 := tOfQ kt X.K di1) (tt1 := tOfT kt X.K dt1) (te := tOfV kt X.K (dFz de)) hc hN hy hyl hsw pi ok hv hg (fun s H C cl fp => (ht s H C cl fp).canon) (fun s H C cl fp => (hi1 s H C cl fp).canon) hg1 (fun s H C cl fp => (ht1 s H C cl fp).canon) (fun s H C cl fp => (fz (he s H C cl fp)).canon) hs hs1, fun S H σ E DD D I h e => ?_⟩
  exact lc2_lk li hct hct1 hv S H σ E _ _ I h fun S1 H1 E1 v r e1 q n h1 => hgd S H σ E S1 H1 σ E1 v r _ _ I (e1.go I) q n h1 fun S2 H2 σ2 E2 g2 _ h2 => e.nx S2 H2 σ2 E2 g2 h2
end
end BD
set_option Elab.async false
set_option linter.all false
set_option maxRecDepth 100000
set_option maxHeartbeats 4000000
/-! BD: sorted, of any data. -/
namespace BD
open PySem PySem.Spec PyProof.Rows L2
mutual
theorem reads_there {h : Heap} : ∀ {v : Value} {d : PyData} {as : List Addr}, Reads h v d as → ∀ b ∈ as, ∃ o, h.get? b = some o
  | _, _, _, .none, b, hb => nomatch hb
  | _, _, _, .bool _, b, hb => nomatch hb
  | _, _, _, .int _ _, b, hb => nomatch hb
  | _, _, _, .str _ _, b, hb => nomatch hb
  | _, _, _, .list (o := o) h1 _ _ r, b, hb => by
    rcases List.mem_cons.mp hb with rfl | hb
    · exact ⟨o, h1⟩
    · exact readsAll_there r b hb
  | _, _, _, .tuple _ _ _ r, b, hb => readsAll_there r b hb
  | _, _, _, .dict (o := o) h1 _ _ r r2, b, hb => by
    rw [List.cons_append] at hb
    rcases List.mem_cons.mp hb with rfl | hb
    · exact ⟨o, h1⟩
    · rcases List.mem_append.mp hb with hb | hb
      · exact readsAll_there r b hb
      · exact readsAll_there r2 b hb
theorem readsAll_there {h : Heap} : ∀ {vs : List Value} {ds : List PyData} {as : List Addr}, ReadsAll h vs ds as → ∀ b ∈ as, ∃ o, h.get? b = some o
  | _, _, _, .nil, b, hb => nomatch hb
  | _, _, _, .cons r t, b, hb => by
    rcases List.mem_append.mp hb with hb | hb
    · exact reads_there r b hb
    · exact readsAll_there t b hb
end
section
variable {prog : Program} {w : World} {A : Around} {E : Value → Shared → Prop} {s : Shared} {β : Type} {us : List Value} {bs : List β} {enc : β → PyData} {R : Value → β → Prop}
/-- sorted of what collect brings -/
theorem sorted_of {x : Value} {Q : Value → Shared → Prop}
    (hc : ∀ (RR : List Value → Shared → Prop) (EE : Value → Shared → Prop), (∀ h' tk, (∀ b o, s.heap.get? b = some o → h'.get? b = some o) → RR us { s with heap := h', toks := tk }) → wpAny (model prog w) A.in1 (collect x) RR EE s)
    (e : PySem.W.EachIs R us bs) (er : PySem.W.EachIs (fun v b => ∃ as, Reads s.heap v (enc b) as) us bs) (hal : PySem.W.AllAlike (bs.map enc)) (hk : PySem.W.Sortable (bs.map enc)) (hL : bs.length ≤ sizeLine)
    (hu : ∀ b, b ∈ bs → A.units + 2 + (enc b).depth < cLine)
    (h : ∀ (h1 : Heap) (tk : Nat) (h' : Heap) (out : List Value) (c : Nat), (∀ b o, s.heap.get? b = some o → h1.get? b = some o) → (∀ b o, h1.get? b = some o → h'.get? b = some o) → h'.get? h1.objs.size = some (seqObj "list" (List.toArray out) c) → out.length = bs.length → PySem.W.EachIs R out (bs.mergeSort (PySem.W.dataLe false enc)) → Q (.ref h1.objs.size) { s with heap := h', toks := tk }) :
    wpAny (model prog w) A (call (.builtin "sorted") [x]) Q E s := by
  refine Calls.call_function_entry PyProof.Rows.kind_sorted PyProof.Rows.plain_sorted PyProof.Rows.entry_sorted (PyProof.Rows.args_sorted1 _) ?_
  unfold Builtin.«sorted»
  refine wpAny_bind (m := checkCount "sorted" 1 1 _) (wpAny_pure ?_)
  refine wpAny_bind (hc _ _ fun h' tk hkeep => ?_)
  have hlen : us.length ≤ sizeLine := by rw [e.length]; exact hL
  refine wpAny_bind (wpAny_newList ?_ hlen)
  have ho : (h'.push (seqObj "list" us.toArray 0)).get? h'.objs.size = some (seqObj "list" us.toArray 0) := Heap.get?_push_size _ rfl
  have keep2 : ∀ b o, s.heap.get? b = some o → (h'.push (seqObj "list" us.toArray 0)).get? b = some o := fun b o q => Heap.get?_push_of_some _ (hkeep b o q)
  have er2 : PySem.W.EachIs (fun v b => ∃ as, Reads (h'.push (seqObj "list" us.toArray 0)) v (enc b) as ∧ h'.objs.size ∉ as) us bs := er.mono fun v b ⟨as, r⟩ => ⟨as, PyProof.Rows.Reads.keeps keep2 r, fun hm => by
    obtain ⟨o, q⟩ := reads_there r _ hm
    exact Nat.lt_irrefl _ (Heap.lt_size (hkeep _ _ q))⟩
  show wpAny _ _ _ _ _ { s with heap := h'.push (seqObj "list" us.toArray 0), toks := tk }
  refine wpAny_bind (wpAny_holding (PySem.W.list_sort_data (vs := us) (s := { s with heap := h'.push (seqObj "list" us.toArray 0), toks := tk }) ho e er2 hal hk hL (fun b hb => ?_) fun out hout eo => ?_))
  · have := hu b hb
    show A.in1.units + 1 + (enc b).depth < cLine
    exact this
  · obtain ⟨c, hc'⟩ := PyProof.Rows.sortedHeap_at (vs := us) (out := out.toArray) ho
    refine wpAny_pure ⟨_, rfl, h h' tk _ out c hkeep (fun b o q => ?_) hc' hout eo⟩
    have hb : b < h'.objs.size := Heap.lt_size q
    rw [PyProof.Rows.sortedHeap_old (Nat.ne_of_lt hb) (by rw [size_push']; exact Nat.lt_succ_of_lt hb)]
    exact Heap.get?_push_of_some _ q
end
theorem each_vals {β : Type} {f : β → V} : ∀ {bs : List β} {us : List Value}, Vals (bs.map f) us → PySem.W.EachIs (fun v b => RelV (f b) v) us bs
  | [], _, h => by cases h; exact .nil
  | b :: bs, _, h => by
    have h' : Vals (f b :: bs.map f) _ := h
    cases h' with
    | cons r t => exact .cons r (each_vals t)
theorem vals_each {β : Type} {f : β → V} : ∀ {bs : List β} {us : List Value}, PySem.W.EachIs (fun v b => RelV (f b) v) us bs → Vals (bs.map f) us
  | [], _, h => by cases h; exact .nil
  | b :: bs, _, h => by
    cases h with
    | cons r t => exact .cons r (vals_each t)
/-- the order of sorted -/
def leD (a b : D) : Bool := PySem.W.dataLe false py a b
def sortD (ds : List D) : List D := ds.mergeSort leD
structure SOk (ds : List D) : Prop where
  ok : ds.all (okd 50) = true
  al : PySem.W.AllAlike (ds.map py)
  so : PySem.W.Sortable (ds.map py)
  sz : ds.length ≤ sizeLine
def dSorted (d : D) (Q : R → Prop) : Prop := match d with
  | .lst ds => SOk ds ∧ Q (.fr (.lst (sortD ds)))
  | .tup ds => SOk ds ∧ Q (.fr (.lst (sortD ds)))
  | _ => False
section
variable {X : Cx} {kt : Bool} {K : PySem.W.Frag} {S H : Hp}
theorem zip_rpl : ∀ {vs : List V} {ds : List D}, RpL kt K S vs ds → ∃ bs : List (V × D), vs = bs.map (·.1) ∧ ds = bs.map (·.2) ∧ ∀ b ∈ bs, Rp kt K S b.1 b.2
  | _, _, .nil => ⟨[], rfl, rfl, fun _ h => nomatch h⟩
  | _, _, .cons (v := v) (d := d) r t => by
    obtain ⟨bs, h1, h2, h3⟩ := zip_rpl t
    refine ⟨(v, d) :: bs, by rw [h1]; rfl, by rw [h2]; rfl, fun b hb => ?_⟩
    rcases List.mem_cons.mp hb with rfl | hb
    · exact r
    · exact h3 b hb
theorem rpl_zip : ∀ {bs : List (V × D)}, (∀ b ∈ bs, Rp kt K S b.1 b.2) → RpL kt K S (bs.map (·.1)) (bs.map (·.2))
  | [], _ => .nil
  | b :: bs, h => .cons (h b List.mem_cons_self) (rpl_zip fun b hb => h b (List.mem_cons_of_mem _ hb))
theorem sort_map (bs : List (V × D)) : (bs.mergeSort (PySem.W.dataLe false fun b => py b.2)).map (·.2) = sortD (bs.map (·.2)) := by
  unfold sortD
  rw [List.map_mergeSort (s := leD)]
  intro a _ b _
  rfl
/-- sorted, by the pairs of values and what they stand for -/
def rSortedB (K : PySem.W.Frag) : List V → Hp → VK → Prop := fun vs H Q => ∃ (a : Addr) (bs : List (V × D)), vs = [.ref a] ∧ (SqL K H a (bs.map (·.1)) ∨ SqT K H a (bs.map (·.1))) ∧ (∀ b ∈ bs, Dp K H b.1 (py b.2)) ∧ SOk (bs.map (·.2)) ∧
  ∀ p, H p = none → Q (.ref p) (upd H p (.lst ((bs.mergeSort (PySem.W.dataLe false fun b => py b.2)).map (·.1))))
theorem okd_depth {d : D} (h : okd 50 d = true) : (py d).depth ≤ 50 := (canLay_py 50 d h).2
theorem cr_sortedB (hu : X.A.units + 65 < cLine) : CallR X (.builtin "sorted") (rSortedB X.K) := by
  intro pins s σ H vs us Q I r h
  obtain ⟨a, bs, rfl, hs, hd, ok, q⟩ := h
  rw [Vals.ref1 r]
  have core : ∀ its : List Value, Vals (bs.map (·.1)) its → (∀ (RR : List Value → Shared → Prop) (EE : Value → Shared → Prop), (∀ h' tk, (∀ b o, s.heap.get? b = some o → h'.get? b = some o) → RR its { s with heap := h', toks := tk }) → wpAny (model X.prog X.w) X.A.in1 (collect (.ref a)) RR EE s) →
      wpAny (model X.prog X.w) X.A (call (.builtin "sorted") [.ref a]) (EP X pins σ Q) X.xe s := fun its rv hc => by
    have e := each_vals rv
    have er : PySem.W.EachIs (fun v b => ∃ as, Reads s.heap v (py b.2) as) its bs := (PySem.W.each_mem e).mono fun v b ⟨rb, hb⟩ => (hd b hb).reads I _ _ _ rb
    have hm : bs.map (fun b => py b.2) = (bs.map (·.2)).map py := by rw [List.map_map]; rfl
    refine sorted_of hc e er (by rw [hm]; exact ok.al) (by rw [hm]; exact ok.so) (by have := ok.sz; rwa [List.length_map] at this) (fun b hb => ?_) fun h1 tk h' out c k1 k2 hg hl eo => ?_
    · have := okd_depth (List.all_eq_true.mp ok.ok b.2 (List.mem_map_of_mem hb))
      omega
    · have I1 : Inv X pins σ H { s with heap := h1, toks := tk } := I.kept k1
      have hn : H h1.objs.size = none := I1.hok.fresh (Nat.le_refl _)
      refine ⟨.ref h1.objs.size, upd H h1.objs.size (.lst ((bs.mergeSort (PySem.W.dataLe false fun b => py b.2)).map (·.1))), I1.laid (t' := tk) k2 (Nat.le_refl _) (show ObjOk X.prog X.w _ _ _ (.lst ((bs.mergeSort (PySem.W.dataLe false fun b => py b.2)).map (·.1))) from ⟨?_, out, c, vals_each eo, hg⟩), rfl, q _ hn⟩
      have := ok.sz
      rw [List.length_map] at this ⊢
      rw [List.length_mergeSort]
      exact this
  rcases hs with hs | hs
  · obtain ⟨its, rv, pl, hz⟩ := I.list hs
    obtain ⟨o, ho, hcl, n, hdt⟩ := pl.isList
    exact core its rv fun RR EE hk => wpAny_collect_seq a (.inl rfl) ho hcl hdt (fun h' k => hk h' s.toks k) (by rw [List.size_toArray, ← rv.length]; exact hz)
  · obtain ⟨its, rv, pl, hz⟩ := I.tuple hs
    obtain ⟨o, ho, hcl, n, hdt⟩ := (show s.heap.IsTuple a its.toArray from pl)
    exact core its rv fun RR EE hk => wpAny_collect_seq a (.inr rfl) ho hcl hdt (fun h' k => hk h' s.toks k) (by rw [List.size_toArray, ← rv.length]; exact hz)
theorem cb_sorted' (hu : X.A.units + 65 < cLine) : CallB X kt (.builtin "sorted") (d1 dSorted) := ⟨_, cr_sortedB hu, cd_one fun S H v d Q Q' e w h o => by
  have core : ∀ ds, (∃ p vs, v = .ref p ∧ (SqL X.K H p vs ∨ SqT X.K H p vs) ∧ RpL kt X.K S vs ds) → SOk ds → Q (.fr (.lst (sortD ds))) → rSortedB X.K [v] H Q' := fun ds ⟨p, vs, hv, hs, r⟩ ok hq => by
    subst hv
    obtain ⟨bs, rfl, rfl, hb⟩ := zip_rpl r
    refine ⟨p, bs, rfl, hs, fun b hbm => dp_rp e 50 _ _ (List.all_eq_true.mp ok.ok b.2 (List.mem_map_of_mem hbm)) (hb b hbm), ok, fun a ha => o.lst ha ?_ hq⟩
    rw [← sort_map]
    exact rpl_zip fun b hbm => hb b ((List.mergeSort_perm _ _).mem_iff.mp hbm)
  cases d with
  | lst ds =>
    obtain ⟨p, vs, rfl, hp, r⟩ := w.lst e
    exact core ds ⟨p, vs, rfl, .inl (.of hp), r⟩ h.1 h.2
  | tup ds =>
    obtain ⟨p, vs, rfl, hp, r⟩ := w.tup e
    exact core ds ⟨p, vs, rfl, .inr hp, r⟩ h.1 h.2
  | _ => exact (show False from h).elim⟩
end
end BD
set_option Elab.async false
set_option linter.all false
set_option maxRecDepth 100000
set_option maxHeartbeats 400000
/-! BD: min, max of any data. -/
namespace BD
open PySem PySem.Spec PyProof.Rows L2
theorem cls_ne {o : Obj} {a b : String} (h1 : o.cls = .type a) (h2 : o.cls = .type b) (h : a ≠ b) : False := h (Value.type.inj (h1.symm.trans h2))
mutual
theorem reads_det {h : Heap} : ∀ {v : Value} {d d' : PyData} {as as' : List Addr}, Reads h v d as → Reads h v d' as' → PySem.W.alike d d = true → d' = d
  | _, _, _, _, _, .none, r, _ => by cases r; rfl
  | _, _, _, _, _, .bool _, r, _ => by cases r; rfl
  | _, _, _, _, _, .int _ _, r, _ => by cases r; rfl
  | _, _, _, _, _, .str _ _, r, _ => by cases r; rfl
  | _, _, _, _, _, .list h1 h2 h3 r1, r, al => by
    cases r with
    | list g1 g2 g3 r2 =>
      rw [h1] at g1; cases g1
      rw [h3] at g3; cases g3
      rw [readsAll_det r1 r2 (by simpa [PySem.W.alike] using al)]
    | tuple g1 g2 g3 r2 => rw [h1] at g1; cases g1; exact (cls_ne h2 g2 (by decide)).elim
    | dict g1 g2 g3 r2 r3 => rw [h1] at g1; cases g1; exact (cls_ne h2 g2 (by decide)).elim
  | _, _, _, _, _, .tuple h1 h2 h3 r1, r, al => by
    cases r with
    | tuple g1 g2 g3 r2 =>
      rw [h1] at g1; cases g1
      rw [h3] at g3; cases g3
      rw [readsAll_det r1 r2 (by simpa [PySem.W.alike] using al)]
    | list g1 g2 g3 r2 => rw [h1] at g1; cases g1; exact (cls_ne h2 g2 (by decide)).elim
    | dict g1 g2 g3 r2 r3 => rw [h1] at g1; cases g1; exact (cls_ne h2 g2 (by decide)).elim
  | _, _, _, _, _, .dict _ _ _ _ _, _, al => absurd al (by simp [PySem.W.alike])
theorem readsAll_det {h : Heap} : ∀ {vs : List Value} {ds ds' : List PyData} {as as' : List Addr}, ReadsAll h vs ds as → ReadsAll h vs ds' as' → PySem.W.alikeAll ds ds = true → ds' = ds
  | _, _, _, _, _, .nil, r, _ => by cases r; rfl
  | _, _, _, _, _, .cons r1 t1, r, al => by
    cases r with
    | cons r2 t2 =>
      simp only [PySem.W.alikeAll, Bool.and_eq_true] at al
      rw [reads_det r1 r2 al.1, readsAll_det t1 t2 al.2]
end
/-- the first of the least, of the greatest -/
def minDD (d : D) (ds : List D) : D := ds.foldl (fun a y => if PySem.W.dataLt (py y) (py a) then y else a) d
def maxDD (d : D) (ds : List D) : D := ds.foldl (fun a y => if PySem.W.dataLt (py a) (py y) then y else a) d
theorem pys_map : ∀ ds : List D, pys ds = ds.map py
  | [] => rfl
  | d :: r => by rw [pys, pys_map r]; rfl
theorem py_min : ∀ (ds : List D) (d : D), py (minDD d ds) = PySem.W.minD (py d) (ds.map py)
  | [], d => rfl
  | x :: r, d => by
    show py (minDD (if PySem.W.dataLt (py x) (py d) then x else d) r) = PySem.W.minD (if PySem.W.dataLt (py x) (py d) then py x else py d) (r.map py)
    rw [py_min r]
    congr 1
    split <;> rfl
theorem py_max : ∀ (ds : List D) (d : D), py (maxDD d ds) = PySem.W.maxD (py d) (ds.map py)
  | [], d => rfl
  | x :: r, d => by
    show py (maxDD (if PySem.W.dataLt (py d) (py x) then x else d) r) = PySem.W.maxD (if PySem.W.dataLt (py d) (py x) then py x else py d) (r.map py)
    rw [py_max r]
    congr 1
    split <;> rfl
/-- data without dicts is told by what it reads as -/
theorem py_inj : ∀ (n : Nat) (a b : D), okd n a = true → okd n b = true → py a = py b → a = b
  | n, .non, b, _, hb, h => by cases b <;> first | rfl | (simp [py] at h; done)
  | n, .bl x, b, _, hb, h => by cases b <;> first | (simp [py] at h; done) | (simp [py] at h; rw [h])
  | n, .int x, b, _, hb, h => by cases b <;> first | (simp [py] at h; done) | (simp [py] at h; rw [h])
  | n, .str x, b, _, hb, h => by cases b <;> first | (simp [py] at h; done) | (simp [py] at h; rw [h])
  | 0, .xt _, _, h, _, _ => nomatch h
  | _ + 1, .xt _, _, h, _, _ => nomatch h
  | 0, .ks _, _, h, _, _ => nomatch h
  | _ + 1, .ks _, _, h, _, _ => nomatch h
  | 0, .lst xs, _, h, _, _ => nomatch h
  | 0, .tup xs, _, h, _, _ => nomatch h
  | n, .dk _, _, h, _, _ => by cases n <;> exact nomatch h
  | n, .dt _, _, h, _, _ => by cases n <;> exact nomatch h
  | n, .scr _, _, h, _, _ => by cases n <;> exact nomatch h
  | n + 1, .lst xs, b, h, hb, e => by
    cases b with
    | lst ys =>
      have h1 : xs.all (okd n) = true := h
      have h2 : ys.all (okd n) = true := hb
      have e2 : pys xs = pys ys := by simpa [py] using e
      clear h hb e
      congr 1
      induction xs generalizing ys with
      | nil => cases ys <;> first | rfl | (simp [pys] at e2)
      | cons x r ih =>
        cases ys with
        | nil => simp [pys] at e2
        | cons y t =>
          simp only [List.all_cons, Bool.and_eq_true] at h1 h2
          simp only [pys, List.cons.injEq] at e2
          rw [py_inj n x y h1.1 h2.1 e2.1, ih t h1.2 h2.2 e2.2]
    | dk _ => exact nomatch hb
    | dt _ => exact nomatch hb
    | scr _ => exact nomatch hb
    | _ => simp [py] at e
  | n + 1, .tup xs, b, h, hb, e => by
    cases b with
    | tup ys =>
      have h1 : xs.all (okd n) = true := h
      have h2 : ys.all (okd n) = true := hb
      have e2 : pys xs = pys ys := by simpa [py] using e
      clear h hb e
      congr 1
      induction xs generalizing ys with
      | nil => cases ys <;> first | rfl | (simp [pys] at e2)
      | cons x r ih =>
        cases ys with
        | nil => simp [pys] at e2
        | cons y t =>
          simp only [List.all_cons, Bool.and_eq_true] at h1 h2
          simp only [pys, List.cons.injEq] at e2
          rw [py_inj n x y h1.1 h2.1 e2.1, ih t h1.2 h2.2 e2.2]
    | dk _ => exact nomatch hb
    | dt _ => exact nomatch hb
    | scr _ => exact nomatch hb
    | _ => simp [py] at e
structure MOk (ds : List D) : Prop where
  ok : ds.all (okd 50) = true
  al : PySem.W.AllAlike (ds.map py)
  nn : ∀ d ∈ ds, d ≠ .non
theorem minDD_mem : ∀ (ds : List D) (d : D), minDD d ds ∈ d :: ds
  | [], d => List.mem_cons_self
  | x :: r, d => by
    have h := minDD_mem r (if PySem.W.dataLt (py x) (py d) then x else d)
    have e : minDD d (x :: r) = minDD (if PySem.W.dataLt (py x) (py d) then x else d) r := rfl
    rw [e]
    rcases List.mem_cons.mp h with h | h
    · rw [h]
      split
      · exact List.mem_cons_of_mem _ List.mem_cons_self
      · exact List.mem_cons_self
    · exact List.mem_cons_of_mem _ (List.mem_cons_of_mem _ h)
theorem maxDD_mem : ∀ (ds : List D) (d : D), maxDD d ds ∈ d :: ds
  | [], d => List.mem_cons_self
  | x :: r, d => by
    have h := maxDD_mem r (if PySem.W.dataLt (py d) (py x) then x else d)
    have e : maxDD d (x :: r) = maxDD (if PySem.W.dataLt (py d) (py x) then x else d) r := rfl
    rw [e]
    rcases List.mem_cons.mp h with h | h
    · rw [h]
      split
      · exact List.mem_cons_of_mem _ List.mem_cons_self
      · exact List.mem_cons_self
    · exact List.mem_cons_of_mem _ (List.mem_cons_of_mem _ h)
def dMinD (d : D) (Q : R → Prop) : Prop := match d with
  | .lst (x :: r) => MOk (x :: r) ∧ Q (.val (minDD x r))
  | .tup (x :: r) => MOk (x :: r) ∧ Q (.val (minDD x r))
  | _ => False
def dMaxD (d : D) (Q : R → Prop) : Prop := match d with
  | .lst (x :: r) => MOk (x :: r) ∧ Q (.val (maxDD x r))
  | .tup (x :: r) => MOk (x :: r) ∧ Q (.val (maxDD x r))
  | _ => False
section
variable {X : Cx} {kt : Bool} {K : PySem.W.Frag} {S H : Hp}
/-- min, max: of the items one that reads as the least, the greatest -/
def rBest (K : PySem.W.Frag) (best : PyData → List PyData → PyData) : List V → Hp → VK → Prop := fun vs H Q => ∃ (a : Addr) (bs : List (V × D)) (x : D) (r : List D), vs = [.ref a] ∧ bs.map (·.2) = x :: r ∧ (SqL K H a (bs.map (·.1)) ∨ SqT K H a (bs.map (·.1))) ∧ (∀ b ∈ bs, Dp K H b.1 (py b.2)) ∧ MOk (x :: r) ∧
  ∀ b ∈ bs, py b.2 = best (py x) (r.map py) → Q b.1 H
theorem best_core {best : PyData → List PyData → PyData} {f : Value} (hu : X.A.units + 65 < cLine) (hc : X.calm = true)
    (hl : ∀ {A : Around} {E : Value → Shared → Prop} {s : Shared} {l : Addr} {vs : Array Value} {x : PyData} {xs : List PyData} {as : List Addr} {Q : Value → Shared → Prop}, A.handled = none → s.heap.IsList l vs → ReadsAll s.heap vs.toList (x :: xs) as → PySem.W.AlikeAll (x :: xs) → A.units + 1 + PyData.depthAll (x :: xs) < cLine →
      (∀ (i : Nat) v h' tk bs, vs[i]? = some v → Reads h' v (best x xs) bs → (∀ b o, s.heap.get? b = some o → h'.get? b = some o) → Q v { s with heap := h', toks := tk }) → wpAny (model X.prog X.w) A (call f [.ref l]) Q E s)
    (ht : ∀ {A : Around} {E : Value → Shared → Prop} {s : Shared} {l : Addr} {vs : Array Value} {x : PyData} {xs : List PyData} {as : List Addr} {Q : Value → Shared → Prop}, A.handled = none → s.heap.IsTuple l vs → ReadsAll s.heap vs.toList (x :: xs) as → PySem.W.AlikeAll (x :: xs) → A.units + 1 + PyData.depthAll (x :: xs) < cLine →
      (∀ (i : Nat) v h' tk bs, vs[i]? = some v → Reads h' v (best x xs) bs → (∀ b o, s.heap.get? b = some o → h'.get? b = some o) → Q v { s with heap := h', toks := tk }) → wpAny (model X.prog X.w) A (call f [.ref l]) Q E s) :
    CallR X f (rBest X.K best) := by
  intro pins s σ H vs us Q I r h
  obtain ⟨a, bs, x, rr, rfl, hbs, hs, hd, ok, q⟩ := h
  rw [Vals.ref1 r]
  have hh := I.ok.hd hc
  have dep : PyData.depthAll ((x :: rr).map py) ≤ 50 := by
    have g : ∀ l : List D, l.all (okd 50) = true → PyData.depthAll (l.map py) ≤ 50 := fun l hl => by
      induction l with
      | nil => simp [PyData.depthAll]
      | cons y t ih =>
        simp only [List.all_cons, Bool.and_eq_true] at hl
        simp only [List.map_cons, PyData.depthAll]
        exact Nat.max_le.mpr ⟨okd_depth hl.1, ih hl.2⟩
    exact g _ ok.ok
  have alk : PySem.W.AlikeAll (py x :: rr.map py) := ⟨fun u hu v hv => ok.al u hu v hv, fun u hu => by
    obtain ⟨d, hd', rfl⟩ := List.mem_map.mp (show u ∈ (x :: rr).map py from hu)
    have := ok.nn d hd'
    have okk := List.all_eq_true.mp ok.ok d hd'
    cases d with
    | non => exact absurd rfl this
    | dk _ => exact nomatch okk
    | dt _ => exact nomatch okk
    | scr _ => exact nomatch okk
    | _ => simp [py]⟩
  have fin : ∀ its : List Value, Vals (bs.map (·.1)) its → (∃ as, ReadsAll s.heap its (py x :: rr.map py) as) ∧ ∀ (i : Nat) (v : Value) h' tk as, its.toArray[i]? = some v → Reads h' v (best (py x) (rr.map py)) as → (∀ b o, s.heap.get? b = some o → h'.get? b = some o) → EP X pins σ Q v { s with heap := h', toks := tk } := fun its rv => by
    have e := each_vals rv
    have hm : bs.map (fun b => py b.2) = py x :: rr.map py := by
      have : bs.map (fun b => py b.2) = (bs.map (·.2)).map py := by rw [List.map_map]; rfl
      rw [this, hbs]; rfl
    have er : PySem.W.EachIs (fun v b => ∃ as, Reads s.heap v (py b.2) as) its bs := (PySem.W.each_mem e).mono fun v b ⟨rb, hb⟩ => (hd b hb).reads I _ _ _ rb
    refine ⟨by rw [← hm]; exact PySem.W.each_readsAll (fun b : V × D => py b.2) er, fun i v h' tk as hv hr hk => ?_⟩
    have hv' : its[i]? = some v := by simpa using hv
    obtain ⟨b, hbm, rb⟩ : ∃ b, b ∈ bs ∧ RelV b.1 v := by
      have hlt : i < its.length := by
        rcases Nat.lt_or_ge i its.length with q | q
        · exact q
        · rw [List.getElem?_eq_none q] at hv'; cases hv'
      have hlt2 : i < bs.length := by have := e.length; omega
      have hz : (v, bs[i]) ∈ its.zip bs := List.mem_of_getElem? (i := i) (by rw [List.getElem?_zip_eq_some]; exact ⟨hv', List.getElem?_eq_getElem hlt2⟩)
      exact ⟨_, List.getElem_mem hlt2, e.zip _ hz⟩
    obtain ⟨as2, r2⟩ := (hd b hbm).reads I _ _ _ rb
    have hb2 : py b.2 ∈ (x :: rr).map py := by rw [← hbs]; exact List.mem_map_of_mem (List.mem_map_of_mem hbm)
    have e2 := reads_det (Reads.keeps hk r2) hr (ok.al _ hb2 _ hb2)
    exact ⟨b.1, H, I.kept hk, rb, q b hbm e2.symm⟩
  rcases hs with hs | hs
  · obtain ⟨its, rv, pl, hz⟩ := I.list hs
    obtain ⟨⟨as, g1⟩, g2⟩ := fin its rv
    exact hl hh pl.isList (by simpa using g1) alk (by have : PyData.depthAll (py x :: rr.map py) ≤ 50 := dep
                                                      omega) g2
  · obtain ⟨its, rv, pl, hz⟩ := I.tuple hs
    obtain ⟨⟨as, g1⟩, g2⟩ := fin its rv
    exact ht hh (show s.heap.IsTuple a its.toArray from pl) (by simpa using g1) alk (by have : PyData.depthAll (py x :: rr.map py) ≤ 50 := dep
                                                                                        omega) g2
theorem cr_minD (hc : X.calm = true) (hu : X.A.units + 65 < cLine) : CallR X (.builtin "min") (rBest X.K PySem.W.minD) := best_core hu hc (fun hh hl hr ha hu h => PySem.W.min_list_data hh hl hr ha hu h) (fun hh hl hr ha hu h => PySem.W.min_tuple_data hh hl hr ha hu h)
theorem cr_maxD (hc : X.calm = true) (hu : X.A.units + 65 < cLine) : CallR X (.builtin "max") (rBest X.K PySem.W.maxD) := best_core hu hc (fun hh hl hr ha hu h => PySem.W.max_list_data hh hl hr ha hu h) (fun hh hl hr ha hu h => PySem.W.max_tuple_data hh hl hr ha hu h)
theorem best_lk {best : PyData → List PyData → PyData} {bd : D → List D → D} (hpy : ∀ ds d, py (bd d ds) = best (py d) (ds.map py)) (hmem : ∀ ds d, bd d ds ∈ d :: ds) {Q : R → Prop} {Q' : VK} (e : Same S H) (o : Outs kt K S H Q Q') {p : Addr} {vs : List V} {x : D} {r : List D}
    (hs : SqL K H p vs ∨ SqT K H p vs) (rr : RpL kt K S vs (x :: r)) (ok : MOk (x :: r)) (q : Q (.val (bd x r))) : rBest K best [.ref p] H Q' := by
  obtain ⟨bs, rfl, h2, hb⟩ := zip_rpl rr
  refine ⟨p, bs, x, r, rfl, h2.symm, hs, fun b hbm => dp_rp e 50 _ _ (List.all_eq_true.mp ok.ok b.2 (by rw [h2]; exact List.mem_map_of_mem hbm)) (hb b hbm), ok, fun b hbm hp => ?_⟩
  have h3 : b.2 = bd x r := py_inj 50 _ _ (List.all_eq_true.mp ok.ok b.2 (by rw [h2]; exact List.mem_map_of_mem hbm)) (List.all_eq_true.mp ok.ok _ (hmem r x)) (hp.trans (hpy r x).symm)
  exact o.val b.1 b.2 (hb b hbm) (by rw [h3]; exact q)
theorem cb_minA (hc : X.calm = true) (hu : X.A.units + 65 < cLine) : CallB X kt (.builtin "min") (d1 dMinD) := ⟨_, cr_minD hc hu, cd_one fun S H v d Q Q' e w h o => by
  cases d with
  | lst xs =>
    cases xs with
    | nil => exact (show False from h).elim
    | cons x r =>
      obtain ⟨p, vs, rfl, hp, rr⟩ := w.lst e
      exact best_lk py_min minDD_mem e o (.inl (.of hp)) rr h.1 h.2
  | tup xs =>
    cases xs with
    | nil => exact (show False from h).elim
    | cons x r =>
      obtain ⟨p, vs, rfl, hp, rr⟩ := w.tup e
      exact best_lk py_min minDD_mem e o (.inr hp) rr h.1 h.2
  | _ => exact (show False from h).elim⟩
theorem cb_maxA (hc : X.calm = true) (hu : X.A.units + 65 < cLine) : CallB X kt (.builtin "max") (d1 dMaxD) := ⟨_, cr_maxD hc hu, cd_one fun S H v d Q Q' e w h o => by
  cases d with
  | lst xs =>
    cases xs with
    | nil => exact (show False from h).elim
    | cons x r =>
      obtain ⟨p, vs, rfl, hp, rr⟩ := w.lst e
      exact best_lk py_max maxDD_mem e o (.inl (.of hp)) rr h.1 h.2
  | tup xs =>
    cases xs with
    | nil => exact (show False from h).elim
    | cons x r =>
      obtain ⟨p, vs, rfl, hp, rr⟩ := w.tup e
      exact best_lk py_max maxDD_mem e o (.inr hp) rr h.1 h.2
  | _ => exact (show False from h).elim⟩
end
end BD
set_option Elab.async false
set_option linter.all false
set_option maxRecDepth 100000
set_option maxHeartbeats 4000000
/-! BD: dicts. -/
namespace BD
open PySem PySem.Spec PyProof.Rows L2
section
variable {κ α β : Type} [DecidableEq κ]
def lookD (kds : List (κ × α)) (k : κ) : Option α := (kds.find? fun kv => decide (kv.1 = k)).map (·.2)
def putD (kds : List (κ × α)) (k : κ) (v : α) : List (κ × α) :=
  if (kds.any fun kv => decide (kv.1 = k)) = true then kds.map (fun kv => if kv.1 = k then (kv.1, v) else kv) else kds ++ [(k, v)]
/-- entry by entry: the same keys -/
inductive PR (P : α → β → Prop) : List (κ × α) → List (κ × β) → Prop
  | nil : PR P [] []
  | cons {k : κ} {a : α} {b : β} {as : List (κ × α)} {bs : List (κ × β)} : P a b → PR P as bs → PR P ((k, a) :: as) ((k, b) :: bs)
variable {P : α → β → Prop}
theorem PR.length : ∀ {as : List (κ × α)} {bs : List (κ × β)}, PR P as bs → as.length = bs.length
  | _, _, .nil => rfl
  | _, _, .cons _ t => congrArg (· + 1) (PR.length t)
theorem PR.look (k : κ) : ∀ {as : List (κ × α)} {bs : List (κ × β)}, PR P as bs → (lookD as k = none ∧ lookD bs k = none) ∨ ∃ a b, lookD as k = some a ∧ lookD bs k = some b ∧ P a b
  | _, _, .nil => .inl ⟨rfl, rfl⟩
  | _, _, .cons (k := j) (a := a) (b := b) p t => by
    by_cases e : j = k
    · exact .inr ⟨a, b, by simp [lookD, List.find?_cons, e], by simp [lookD, List.find?_cons, e], p⟩
    · rcases PR.look k t with ⟨h1, h2⟩ | ⟨x, y, h1, h2, h3⟩
      · exact .inl ⟨by simpa [lookD, List.find?_cons, e] using h1, by simpa [lookD, List.find?_cons, e] using h2⟩
      · exact .inr ⟨x, y, by simpa [lookD, List.find?_cons, e] using h1, by simpa [lookD, List.find?_cons, e] using h2, h3⟩
theorem PR.anyK (k : κ) : ∀ {as : List (κ × α)} {bs : List (κ × β)}, PR P as bs → (as.any fun kv => decide (kv.1 = k)) = bs.any fun kv => decide (kv.1 = k)
  | _, _, .nil => rfl
  | _, _, .cons _ t => by rw [List.any_cons, List.any_cons, PR.anyK k t]
theorem PR.app : ∀ {as as2 : List (κ × α)} {bs bs2 : List (κ × β)}, PR P as bs → PR P as2 bs2 → PR P (as ++ as2) (bs ++ bs2)
  | _, _, _, _, .nil, s => s
  | _, _, _, _, .cons p t, s => .cons p (PR.app t s)
theorem PR.setK (k : κ) {a : α} {b : β} (q : P a b) : ∀ {as : List (κ × α)} {bs : List (κ × β)}, PR P as bs → PR P (as.map fun kv => if kv.1 = k then (kv.1, a) else kv) (bs.map fun kv => if kv.1 = k then (kv.1, b) else kv)
  | _, _, .nil => .nil
  | _, _, .cons (k := j) p t => by
    rw [List.map_cons, List.map_cons]
    by_cases e : j = k
    · simp only [e, if_pos]
      exact .cons q (PR.setK k q t)
    · simp only [if_neg e]
      exact .cons p (PR.setK k q t)
theorem PR.put (k : κ) {a : α} {b : β} {as : List (κ × α)} {bs : List (κ × β)} (h : PR P as bs) (q : P a b) : PR P (putD as k a) (putD bs k b) := by
  unfold putD
  rw [h.anyK k]
  split
  · exact h.setK k q
  · exact h.app (.cons q .nil)
theorem look_put (k j : κ) (v : α) : ∀ kds : List (κ × α), lookD (putD kds k v) j = if j = k then some v else lookD kds j := by
  intro kds
  unfold putD
  by_cases h : (kds.any fun kv => decide (kv.1 = k)) = true
  · rw [if_pos h]
    induction kds with
    | nil => simp at h
    | cons p r ih =>
      rw [List.map_cons]
      by_cases e : p.1 = k
      · by_cases ej : j = k
        · simp [lookD, List.find?_cons, e, ej]
        · have ek : ¬ k = j := fun z => ej z.symm
          have : lookD (r.map fun kv => if kv.1 = k then (kv.1, v) else kv) j = lookD r j := by
            clear ih h
            induction r with
            | nil => rfl
            | cons q t ih =>
              rw [List.map_cons]
              by_cases eq : q.1 = k
              · simp only [eq, if_true]
                simp only [lookD, List.find?_cons, ek, decide_false, eq] at ih ⊢
                exact ih
              · simp only [if_neg eq]
                by_cases eqj : q.1 = j
                · simp [lookD, List.find?_cons, eqj]
                · simp only [lookD, List.find?_cons, eqj, decide_false] at ih ⊢
                  exact ih
          simp only [e, if_true, if_neg ej]
          simp only [lookD, List.find?_cons, ek, decide_false, e] at this ⊢
          exact this
      · simp only [if_neg e]
        by_cases ej : p.1 = j
        · have : ¬ j = k := fun z => e (ej.trans z)
          simp [lookD, List.find?_cons, ej, this]
        · have hr : (r.any fun kv => decide (kv.1 = k)) = true := by simpa [e] using h
          have := ih hr
          simp only [lookD, List.find?_cons, ej, decide_false] at this ⊢
          exact this
  · rw [if_neg h]
    have hn : lookD kds k = none := by
      unfold lookD
      rw [Option.map_eq_none_iff, List.find?_eq_none]
      intro x hx hz
      exact h (List.any_eq_true.mpr ⟨x, hx, hz⟩)
    unfold lookD at hn ⊢
    rw [List.find?_append]
    by_cases ej : j = k
    · subst ej
      rw [if_pos rfl]
      rw [Option.map_eq_none_iff] at hn
      rw [hn]
      simp
    · rw [if_neg ej]
      have ek : ¬ k = j := fun z => ej z.symm
      simp [ek]
theorem put_len_le (kds : List (κ × α)) (k : κ) (v : α) : (putD kds k v).length ≤ kds.length + 1 := by
  unfold putD
  split
  · rw [List.length_map]; omega
  · rw [List.length_append]; simp
end
section
variable {kt : Bool} {K : PySem.W.Frag} {S H : Hp} {v w : V}
theorem rpk_pr : ∀ {kvs : List (Key × V)} {kds : List (Key × D)}, RpK kt K S kvs kds → PR (Rp kt K S) kvs kds
  | _, _, .nil => .nil
  | _, _, .cons h t => .cons h (rpk_pr t)
theorem pr_rpk : ∀ {kvs : List (Key × V)} {kds : List (Key × D)}, PR (Rp kt K S) kvs kds → RpK kt K S kvs kds
  | _, _, .nil => .nil
  | _, _, .cons h t => .cons h (pr_rpk t)
theorem rpt_pr : ∀ {kvs : List (List Key × V)} {kds : List (List Key × D)}, RpT kt K S kvs kds → PR (Rp kt K S) kvs kds
  | _, _, .nil => .nil
  | _, _, .cons h t => .cons h (rpt_pr t)
theorem pr_rpt : ∀ {kvs : List (List Key × V)} {kds : List (List Key × D)}, PR (Rp kt K S) kvs kds → RpT kt K S kvs kds
  | _, _, .nil => .nil
  | _, _, .cons h t => .cons h (pr_rpt t)
/-- keys -/
def keyOf : D → Option Key
  | .int i => some (.inl i)
  | .str x => some (.inr x)
  | _ => none
def keysOf : List D → Option (List Key)
  | [] => some []
  | d :: r => match keyOf d, keysOf r with
    | some k, some ks => some (k :: ks)
    | _, _ => none
def tkey : D → Option (List Key)
  | .ks ds => keysOf ds
  | _ => none
theorem keyOf_rp {d : D} {k : Key} (h : keyOf d = some k) (r : Rp kt K S v d) : v = kV k := by
  cases d with
  | int i => cases h; cases r; rfl
  | str x => cases h; cases r; rfl
  | _ => cases h
theorem keysOf_rp : ∀ {ds : List D} {ks : List Key} {vs : List V}, keysOf ds = some ks → RpL kt K S vs ds → vs = ks.map kV
  | [], _, _, h, r => by cases h; cases r; rfl
  | d :: ds, ks, _, h, .cons r t => by
    unfold keysOf at h
    cases e1 : keyOf d with
    | none => rw [e1] at h; cases h
    | some k =>
      cases e2 : keysOf ds with
      | none => rw [e1, e2] at h; cases h
      | some ks' =>
        rw [e1, e2] at h
        cases h
        rw [List.map_cons, ← keyOf_rp e1 r, ← keysOf_rp e2 t]
theorem keyOf_vw {d : D} {k : Key} (h : keyOf d = some k) (r : Vw kt K S H v d) : v = kV k := by
  rcases r with r | ⟨p, o, _, _, q⟩
  · exact keyOf_rp h r
  · cases d <;> first | exact (show False from q).elim | cases h
theorem tkey_vw {d : D} {ks : List Key} (e : Same S H) (h : tkey d = some ks) (r : Vw kt K S H v d) : ∃ b, v = .ref b ∧ H b = some (.tup (ks.map kV)) := by
  cases d with
  | ks ds =>
    have hh : keysOf ds = some ks := h
    rcases r with r | ⟨_, _, _, _, q⟩
    · cases r with
      | ks h1 h2 => exact ⟨_, rfl, by rw [← keysOf_rp hh h2]; exact e _ _ h1⟩
    · exact (show False from q).elim
  | _ => cases h
theorem tkey_rp {d : D} {ks : List Key} (e : Same S H) (h : tkey d = some ks) (r : Rp kt K S v d) : ∃ b, v = .ref b ∧ H b = some (.tup (ks.map kV)) := tkey_vw e h (.inl r)
/-- a dict that may be read -/
theorem Vw.dk {kds : List (Key × D)} (e : Same S H) (h : Vw kt K S H v (.dk kds)) : ∃ p kvs, v = .ref p ∧ Rd H p (.dK kvs) ∧ PR (Rp kt K S) kvs kds := by
  rcases h with h | ⟨p, o, hv, hr, h⟩
  · cases h with
    | dk h1 h2 => exact ⟨_, _, rfl, same_rd e h1, rpk_pr h2⟩
  · obtain ⟨vs, rfl, h2⟩ := h
    exact ⟨p, vs, hv, hr.rd, rpk_pr h2⟩
theorem Vw.dt {kds : List (List Key × D)} (e : Same S H) (h : Vw kt K S H v (.dt kds)) : ∃ p kvs, v = .ref p ∧ Rd H p (.dT kvs) ∧ PR (Rp kt K S) kvs kds := by
  rcases h with h | ⟨p, o, hv, hr, h⟩
  · cases h with
    | dt h1 h2 => exact ⟨_, _, rfl, same_rd e h1, rpt_pr h2⟩
  · obtain ⟨vs, rfl, h2⟩ := h
    exact ⟨p, vs, hv, hr.rd, rpt_pr h2⟩
/-- what d holds at the key y: o -/
def dAt (d y : D) (k : Option D → Prop) : Prop := match d with
  | .dk kds => ∃ q, keyOf y = some q ∧ k (lookD kds q)
  | .dt kds => ∃ q, tkey y = some q ∧ k (lookD kds q)
  | _ => False
theorem look_valV {κ : Type} [DecidableEq κ] (kvs : List (κ × V)) (k : κ) : valV kvs k = lookD kvs k := rfl
theorem put_putK {κ : Type} [DecidableEq κ] (kvs : List (κ × V)) (k : κ) (x : V) : putK kvs k x = putD kvs k x := rfl
theorem dAt_ok {d y : D} {k : Option D → Prop} (e : Same S H) (hv : Vw kt K S H v d) (hw : Vw kt K S H w y) (h : dAt d y k) :
    ∃ p o od, v = .ref p ∧ DGet H p w o ∧ ((o = none ∧ od = none) ∨ ∃ x z, o = some x ∧ od = some z ∧ Rp kt K S x z) ∧ k od := by
  cases d with
  | dk kds =>
    obtain ⟨q, h1, h2⟩ := h
    obtain ⟨p, kvs, rfl, hr, pr⟩ := hv.dk e
    refine ⟨p, valV kvs q, _, rfl, .inl ⟨kvs, q, hr, keyOf_vw h1 hw, rfl⟩, ?_, h2⟩
    rw [look_valV]
    exact pr.look q
  | dt kds =>
    obtain ⟨q, h1, h2⟩ := h
    obtain ⟨p, kvs, rfl, hr, pr⟩ := hv.dt e
    obtain ⟨b, rfl, hb⟩ := tkey_vw e h1 hw
    refine ⟨p, valV kvs q, _, rfl, .inr ⟨kvs, q, b, hr, rfl, hb, rfl⟩, ?_, h2⟩
    rw [look_valV]
    exact pr.look q
  | _ => exact (show False from h).elim
end
def dDGet (da dk : DE) : DE := fun E Q => da E fun r E1 => dk E1 fun rk E2 => vw E2 r fun d => vw E2 rk fun y => dAt d y fun o => ∃ z, o = some z ∧ Q (.val z) E2
def dDIn (b : Bool → Bool) (dk da : DE) : DE := fun E Q => dk E fun rk E1 => da E1 fun r E2 => vw E2 r fun d => vw E2 rk fun y => dAt d y fun o => Q (.val (.bl (b o.isSome))) E2
/-- d.get(y, x), x data that stays -/
def isDct : D → Prop
  | .dk _ => True
  | .dt _ => True
  | _ => False
def dDGet2 (da dk dx : DE) : DE := fun E Q => da E fun r E1 => vw E1 r fun d0 => isDct d0 ∧ dk E1 fun rk E2 => dFz dx E2 fun z E3 => vw E3 r fun d => vw E3 rk fun y => dAt d y fun o => Q (.val (o.getD z)) E3
section
variable {X : Cx} {kt : Bool} {K : PySem.W.Frag} {S H S1 H1 S2 H2 : Hp} {σ : L2.St} {E E1 E2 : List Cell} {v : V} {r : R} {a b c e f : Expr} {da db dx : DE} {pos apos cpos : Pos}
theorem se_dnewK : SE X kt (.Dict [] [] pos) (fun E Q => Q (.fr (.dk [])) E) := ⟨_, pe_dnewK, fun S H σ E Q Q' I h k p hp => (outs_of (Ev.refl I) k).fr p (.dK []) (.dk []) hp ⟨[], rfl, .nil⟩ h⟩
theorem se_dnewT : SE X kt (.Dict [] [] pos) (fun E Q => Q (.fr (.dt [])) E) := ⟨_, pe_dnewT, fun S H σ E Q Q' I h k p hp => (outs_of (Ev.refl I) k).fr p (.dT []) (.dt []) hp ⟨[], rfl, .nil⟩ h⟩
theorem se_dget (hu : X.A.units + 1 < cLine) (ha : SE X kt a da) (hb : SE X kt b db) (hs : NoSl b := by exact fun _ _ => rfl) : SE X kt (.Subscript a b pos) (dDGet da db) := by
  obtain ⟨ta, pa, la⟩ := ha.ex
  obtain ⟨tb, pb, lb⟩ := hb.ex
  refine ⟨_, pe_dget hu pa pb hs, fun S H σ E Q Q' I h k => la S H σ E _ _ I h fun S1 H1 E1 v1 r1 e1 q1 n1 h1 => lb S1 H1 σ E1 _ _ e1.si h1 fun S2 H2 E2 v2 r2 e2 q2 n2 h2 => ?_⟩
  have e12 := e1.trans e2
  obtain ⟨d, w1, h3⟩ := vw_ok e2.si (q1.step e2) h2
  obtain ⟨y, w2, h4⟩ := vw_ok e2.si q2 h3
  obtain ⟨p, o, od, rfl, g, hh, z, rfl, h5⟩ := dAt_ok e2.si.ex w1 w2 h4
  rcases hh with ⟨_, hz⟩ | ⟨x, z', rfl, hz, rx⟩
  · cases hz
  · cases hz
    exact ⟨p, x, rfl, g, k S2 H2 E2 x (.val z) e12 rx trivial h5⟩
theorem din_lk {K : PySem.W.Frag} {g : Bool → Bool} {ta tb : TE} {t : TE} (la : LkE kt K ta da) (lb : LkE kt K tb db) (ht : ∀ σ H Q, (ta σ H fun y H1 => tb σ H1 fun x H2 => ∃ a o, x = .ref a ∧ DGet H2 a y o ∧ Q (.bl (g o.isSome)) H2) → t σ H Q) : LkE kt K t (dDIn g da db) :=
  fun S H σ E Q Q' I h k => ht σ H Q' (la S H σ E _ _ I h fun S1 H1 E1 v1 r1 e1 q1 n1 h1 => lb S1 H1 σ E1 _ _ e1.si h1 fun S2 H2 E2 v2 r2 e2 q2 n2 h2 => by
    have e12 := e1.trans e2
    obtain ⟨d, w1, h3⟩ := vw_ok e2.si q2 h2
    obtain ⟨y, w2, h4⟩ := vw_ok e2.si (q1.step e2) h3
    obtain ⟨p, o, od, rfl, gt, hh, h5⟩ := dAt_ok e2.si.ex w1 w2 h4
    have eo : o.isSome = od.isSome := by
      rcases hh with ⟨rfl, rfl⟩ | ⟨x, z, rfl, rfl, _⟩ <;> rfl
    refine ⟨p, o, rfl, gt, k S2 H2 E2 _ (.val (.bl (g od.isSome))) e12 ?_ trivial h5⟩
    rw [eo]
    exact .bl _)
theorem se_din (hu : X.A.units + 1 < cLine) (ha : SE X kt a da) (hb : SE X kt b db) (hm : behindInMarks .In b = false := by first | exact nobehind _ (by decide) (by decide) | rfl) : SE X kt (.Compare a [.In] [b] pos) (dDIn id da db) := by
  obtain ⟨ta, pa, la⟩ := ha.ex
  obtain ⟨tb, pb, lb⟩ := hb.ex
  exact ⟨_, pe_cmp (pc_din hu pa pb) hm, din_lk la lb fun _ _ _ h => h⟩
theorem se_dnin (hu : X.A.units + 1 < cLine) (ha : SE X kt a da) (hb : SE X kt b db) (hm : behindInMarks .NotIn b = false := by first | exact nobehind _ (by decide) (by decide) | rfl) : SE X kt (.Compare a [.NotIn] [b] pos) (dDIn not da db) := by
  obtain ⟨ta, pa, la⟩ := ha.ex
  obtain ⟨tb, pb, lb⟩ := hb.ex
  exact ⟨_, pe_cmp (pc_dnotin hu pa pb) hm, din_lk la lb fun _ _ _ h => h⟩
theorem st_din (hu : X.A.units + 1 < cLine) (ha : SE X kt a da) (hb : SE X kt b db) (hm : behindInMarks .In b = false := by first | exact nobehind _ (by decide) (by decide) | rfl) : ST X kt (.Compare a [.In] [b] pos) (dB (dDIn id da db)) := by
  obtain ⟨ta, pa, la⟩ := ha.ex
  obtain ⟨tb, pb, lb⟩ := hb.ex
  exact ⟨_, pt_cmp (pc_din hu pa pb) hm, b_lk (din_lk la lb fun _ _ _ h => h)⟩
theorem st_dnin (hu : X.A.units + 1 < cLine) (ha : SE X kt a da) (hb : SE X kt b db) (hm : behindInMarks .NotIn b = false := by first | exact nobehind _ (by decide) (by decide) | rfl) : ST X kt (.Compare a [.NotIn] [b] pos) (dB (dDIn not da db)) := by
  obtain ⟨ta, pa, la⟩ := ha.ex
  obtain ⟨tb, pb, lb⟩ := hb.ex
  exact ⟨_, pt_cmp (pc_dnotin hu pa pb) hm, b_lk (din_lk la lb fun _ _ _ h => h)⟩
theorem se_dget2 (hu : X.A.units + 1 < cLine) (ha : SE X kt a da) (hb : SE X kt e db) (hx : SE X kt f dx) (m : M2 X a "get" apos e f cpos := by exact ⟨rfl, rfl, rfl, rfl⟩) : SE X kt (.Call (.Attribute a "get" apos) [e, f] [] cpos) (dDGet2 da db dx) := by
  obtain ⟨ta, pa, la⟩ := ha.ex
  obtain ⟨tb, pb, lb⟩ := hb.ex
  obtain ⟨tx, px, lx⟩ := (fz hx).ex
  refine ⟨_, pe_dget2 hu pa pb px m, fun S H σ E Q Q' I h k => la S H σ E _ _ I h fun S1 H1 E1 v1 r1 e1 q1 n1 h1 => ?_⟩
  obtain ⟨d0, w0, hd0, h1⟩ := vw_ok e1.si q1 h1
  have isD : ∃ p, v1 = .ref p ∧ IsD H1 p := by
    cases d0 with
    | dk kds => obtain ⟨p, kvs, rfl, hr, _⟩ := w0.dk e1.si.ex; exact ⟨p, rfl, .inl ⟨kvs, hr⟩⟩
    | dt kds => obtain ⟨p, kvs, rfl, hr, _⟩ := w0.dt e1.si.ex; exact ⟨p, rfl, .inr ⟨kvs, hr⟩⟩
    | _ => exact (show False from hd0).elim
  obtain ⟨p, rfl, hp⟩ := isD
  refine ⟨p, rfl, hp, lb S1 H1 σ E1 _ _ e1.si h1 fun S2 H2 E2 v2 r2 e2 q2 n2 h2 => lx S2 H2 σ E2 _ _ e2.si h2 fun S3 H3 E3 v3 z e3 rz h3 => ?_⟩
  have e23 := e2.trans e3
  have e13 := e1.trans e23
  obtain ⟨d, w1, h4⟩ := vw_ok e3.si (q1.step e23) h3
  obtain ⟨y, w2, h5⟩ := vw_ok e3.si (q2.step e3) h4
  obtain ⟨p', o, od, hp', g, hh, h6⟩ := dAt_ok e3.si.ex w1 w2 h5
  cases hp'
  refine ⟨o, g, k S3 H3 E3 _ (.val (od.getD z)) e13 ?_ trivial h6⟩
  rcases hh with ⟨rfl, rfl⟩ | ⟨x, z', rfl, rfl, rx⟩
  · exact rz
  · exact rx
/-! ### a slot's dict -/
def dctAt (E : List Cell) (i : Nat) (k : D → (D → List Cell) → Prop) : Prop := match nth E i with
  | .own d => isDct d ∧ k d fun x => put E i (.own x)
  | .bor d => isDct d ∧ k d fun x => put E i (.bor x)
  | _ => False
/-- d[y] = v : the new dict -/
def dPut (d y v : D) (k : D → Prop) : Prop := match d with
  | .dk kds => ∃ q, keyOf y = some q ∧ kds.length < sizeLine ∧ k (.dk (putD kds q v))
  | .dt kds => ∃ q, tkey y = some q ∧ kds.length < sizeLine ∧ k (.dt (putD kds q v))
  | _ => False
def sDPutD (i : Nat) (dk dv : DE) : DS := fun DD E => dFz dv E fun z E1 => dctAt E1 i fun _ _ => dk E1 fun rk E2 => vw E2 rk fun y => dctAt E2 i fun d up => dPut d y z fun d' => DD.nx (up d')
theorem dctAt_ok {K : PySem.W.Frag} {i : Nat} {k : D → (D → List Cell) → Prop} (I : SI kt K S H σ E) (h : dctAt E i k) :
    ∃ p o d up, σ[i]? = some (some (.ref p)) ∧ S p = none ∧ H p = some o ∧ Own kt K S o d ∧ isDct d ∧ (∀ x, sameKind (nth E i) x (match nth E i with | .own _ => .own x | _ => .bor x)) ∧ (∀ x, up x = put E i (match nth E i with | .own _ => .own x | _ => .bor x)) ∧ k d up := by
  have h' : (match nth E i with | .own d => isDct d ∧ k d fun x => put E i (.own x) | .bor d => isDct d ∧ k d fun x => put E i (.bor x) | _ => False) := h
  cases z : nth E i with
  | own d =>
    rw [z] at h'
    obtain ⟨p, o, a1, a2, a3, a4⟩ := I.own i d (.inl z)
    exact ⟨p, o, d, _, a1, a2, a3, a4, h'.1, fun x => rfl, fun x => rfl, h'.2⟩
  | bor d =>
    rw [z] at h'
    obtain ⟨p, o, a1, a2, a3, a4⟩ := I.own i d (.inr z)
    exact ⟨p, o, d, _, a1, a2, a3, a4, h'.1, fun x => rfl, fun x => rfl, h'.2⟩
  | un => rw [z] at h'; exact h'.elim
  | val d => rw [z] at h'; exact h'.elim
  | ro d => rw [z] at h'; exact h'.elim
theorem ss_dput (hu : X.A.units + 1 < cLine) (i : Nat) {x : Str} {px pt spos : Pos} {y value : Expr} {dk dv : DE} (hk : SE X kt y dk) (hv : SE X kt value dv) (hN : X.N[i]? = some x := by rfl) (hx : Vis X.env.scope x := by first | exact Or.inl rfl | exact Or.inr (Or.inl rfl) | exact Or.inr (Or.inr rfl))
    (h1 : (x == ("__debug__" : Str)) = false := by decide) (h2 : (x == ("__classdict__" : Str)) = false := by decide) (hs : swapsWith value (some (.Subscript (.Name x px) y pt)) spos.line X.env = pure false := by rfl) : SS X kt (.Assign [.Subscript (.Name x px) y pt] value spos) (sDPutD i dk dv) := by
  obtain ⟨tk, pk, lk⟩ := hk.ex
  obtain ⟨tv, pv, lv⟩ := (fz hv).ex
  refine ⟨_, ps_dput hu (pe_var hN hx h1 h2) pk pv hs, fun S H σ E DD De I h e => lv S H σ E _ _ I h fun S1 H1 E1 v1 z e1 rz h1 => ?_⟩
  obtain ⟨p, o, d, up, a1, a2, a3, a4, a5, a6, a7, h2⟩ := dctAt_ok e1.si h1
  refine ⟨.ref p, a1, lk S1 H1 σ E1 _ _ e1.si h2 fun S2 H2 E2 v2 r2 e2 q2 n2 h3 => ?_⟩
  obtain ⟨yd, w2, h4⟩ := vw_ok e2.si q2 h3
  obtain ⟨p', o', d', up', b1, b2, b3, b4, b5, b6, b7, h5⟩ := dctAt_ok e2.si h4
  have hpp : p' = p := by
    have := b1.symm.trans a1
    exact (V.ref.inj (Option.some.inj (Option.some.inj this)))
  subst hpp
  have rz2 := rz.mono (le_of e2.fr.ex)
  have fin : ∀ (oo : HO) (dd : D), Own kt X.K S2 oo dd → DD.nx (up' dd) → De.nx σ (upd H2 p' oo) := fun oo dd ho hn => by
    have g := ((e1.trans e2).go I).setCell (o := oo) (b6 dd) b1 ho
    exact e.nx S2 _ σ _ g (by rw [← b7]; exact hn)
  cases d' with
  | dk kds =>
    obtain ⟨q, c1, c2, c3⟩ := h5
    obtain ⟨kvs, rfl, r⟩ := b4
    have pr := rpk_pr r
    refine ⟨p', _, rfl, .inl ⟨kvs, q, b3, keyOf_vw c1 w2, by rw [pr.length]; exact c2, rfl⟩, ?_⟩
    exact fin _ (.dk (putD kds q z)) ⟨_, rfl, pr_rpk (by rw [put_putK]; exact pr.put q rz2)⟩ c3
  | dt kds =>
    obtain ⟨q, c1, c2, c3⟩ := h5
    obtain ⟨kvs, rfl, r⟩ := b4
    have pr := rpt_pr r
    obtain ⟨b, rfl, hb⟩ := tkey_vw e2.si.ex c1 w2
    refine ⟨p', _, rfl, .inr ⟨kvs, q, b, b3, rfl, hb, by rw [pr.length]; exact c2, rfl⟩, ?_⟩
    exact fin _ (.dt (putD kds q z)) ⟨_, rfl, pr_rpt (by rw [put_putK]; exact pr.put q rz2)⟩ c3
  | _ => exact (show False from b5).elim
end
end BD
set_option Elab.async false
set_option linter.all false
set_option maxRecDepth 100000
set_option maxHeartbeats 4000000
/-! BD: enumerate over tuples, lists, texts by one rule; tuple.index of ints; list, tuple of a range. -/
namespace BD
open PySem PySem.Spec PyProof.Rows L2
theorem meets_enumB {v : Value} {o : Obj} {H : Heap → Prop} (B : Begins v o H) :
    Meets (Builtin.«enumerate.__new__» ⟨[.type "enumerate", v], []⟩) (fun _ R s => H s.heap ∧
      R (.ok (.ret (.ref (s.heap.push o).objs.size))) { s with heap := (s.heap.push o).push { cls := .type "enumerate", data := .fields #[.none, .bool false, .ref s.heap.objs.size, rawInt 0, .none, .none] } }) :=
  .of_wp fun prog w A R s h => by
    obtain ⟨hp, g, d, tk, os⟩ := s; obtain ⟨h1, h⟩ := h
    have hsub := sub_enumerate
    have q1 : ∀ {A' : Around} {E : Value → Shared → Prop} {Q : Value → Shared → Prop}, Q (.ref hp.objs.size) ⟨hp.push o, g, d, tk, os⟩ → wpAny (model prog w) A' (pyIter v) Q E ⟨hp, g, d, tk, os⟩ :=
      fun q => B.iter prog w _ _ ⟨hp, g, d, tk, os⟩ _ h1 q
    wp_walk using q1
    refine wpAny_stack_any fun st => wpAny_pure ?_
    split
    · rename_i c _ _ _ _ _
      cases (c == Value.type "enumerate")
      · wp_walk using q1
        exact ⟨_, rfl, h⟩
      · wp_walk using q1
        exact ⟨_, rfl, h⟩
    · wp_walk using q1
      exact ⟨_, rfl, h⟩
section
variable {prog : Program} {w : World} {A : Around} {E : Value → Shared → Prop} {s : Shared}
theorem call_enumB {v : Value} {o : Obj} {H : Heap → Prop} {Q : Value → Shared → Prop} (B : Begins v o H) (h1 : H s.heap)
    (h : ∀ h', IsEnum h' (s.heap.objs.size + 1) s.heap.objs.size 0 .none → h'.get? s.heap.objs.size = some o → h'.objs.size = s.heap.objs.size + 2 →
      (∀ b o, s.heap.get? b = some o → h'.get? b = some o) → Q (.ref (s.heap.objs.size + 1)) { s with heap := h' }) :
    wpAny (model prog w) A (call (.type "enumerate") [v]) Q E s := by
  refine callType_new F.called_enumerate (by decide) (F.typeCall_enumerate_1 _) (F.newCall_enumerate_1 _) (fun obj => F.args_object_init_2 obj _) F.entry_enumerate_new
    (meets_enumB B) ⟨h1, ?_⟩
  have hz : (s.heap.push o).objs.size = s.heap.objs.size + 1 := Heap.size_push ..
  show _ ∧ _
  rw [hz]
  have he : IsEnum ((s.heap.push o).push { cls := .type "enumerate", data := .fields #[.none, .bool false, .ref s.heap.objs.size, rawInt 0, .none, .none] }) (s.heap.objs.size + 1) s.heap.objs.size 0 .none := by
    have := Heap.get?_push_size (s.heap.push o) (o := { cls := .type "enumerate", data := .fields #[.none, .bool false, .ref s.heap.objs.size, rawInt 0, .none, .none] }) rfl
    rw [hz] at this; exact this
  exact ⟨⟨_, he, rfl⟩, h _ he (Heap.get?_push_of_some _ (Heap.get?_push_size _ B.free)) (by rw [Heap.size_push, hz]) fun b o x => Heap.get?_push_of_some _ (Heap.get?_push_of_some _ x)⟩
end
/-- a tuple's items, each in a new pair with its number -/
def IteT (K : PySem.W.Frag) (a : Addr) : It :=
  ⟨fun i H => ∃ (xs : List V) (x : V), SqT K H a xs ∧ xs[i]? = some x, fun i H v H' => ∃ T x, v = .ref T ∧ H T = none ∧ H' = upd H T (.tup [.int (i : Nat), x]) ∧ ∀ xs, SqT K H a xs → xs[i]? = some x, fun i H => ∃ xs : List V, SqT K H a xs ∧ xs.length = i⟩
theorem turn_enumT {P : Program} {w : World} {K : PySem.W.Frag} {elts : List Expr} {kk : Nat} {tpos : Pos} (a e it : Addr) (hei : e ≠ it) (hai : a ≠ it) (hae : a ≠ e) :
    Turn P w K (.Tuple elts kk tpos) (IteT K a) [e, it] e (fun i h => (∃ old, IsEnum h e it ((i : Nat) : Int) old) ∧ h.IsTupleIter it a i) where
  mem := by simp
  obj := fun i h st b hb => by
    obtain ⟨⟨old, he⟩, ⟨o, ho, hc, hd⟩⟩ := st
    have e' : b = e ∨ b = it := by simpa using hb
    rcases e' with z | z
    · rw [z]; exact ⟨_, he, fun v q => nomatch q⟩
    · rw [z]; exact ⟨o, ho, fun v q => by rw [hd] at q; cases q⟩
  keep := fun i h h' st k => let ⟨⟨old, he⟩, hi⟩ := st; ⟨⟨old, k e (by simp) _ he⟩, hi.at fun o q => k it (by simp) o q⟩
  item := by
    intro X hP hw hK hc i pins s σ H E I hf st hg
    subst hP hw hK
    obtain ⟨⟨old, he⟩, hit⟩ := st
    obtain ⟨xs, x, hq, hx⟩ := hg
    obtain ⟨its, rv, p, hz⟩ := I.tuple hq
    obtain ⟨u, hu, ru⟩ := rv.get hx
    have hel : e < s.heap.objs.size := Heap.lt_size he
    have hil : it < s.heap.objs.size := by obtain ⟨_, q, _⟩ := hit; exact Heap.lt_size q
    have hT : s.heap.IsTuple a its.toArray := p
    have hlt : i < its.toArray.size := by
      rw [List.size_toArray]
      rcases Nat.lt_or_ge i its.length with q | q
      · exact q
      · rw [List.getElem?_eq_none q] at hu; cases hu
    refine wpAny_pyNext_enum_itemD (Draws.tuple (show X.A.in1.handled = none from I.ok.hd hc) it a hai its.toArray) he ⟨hit, hT⟩ hlt hei (by simp; exact ⟨hei, Ne.symm hae⟩) fun xv h' tk hP ho hit' hT hsz hk => ?_
    have hxu : xv = u := by
      have : its.toArray[i]? = some u := by simpa using hu
      rw [this] at hP
      exact (Option.some.inj hP).symm
    subst hxu
    refine ⟨_, rfl, wpAny_letOwnedTupleGo_enum (s := { s with heap := h', toks := tk + 1 }) ho fun h'' he' sb => ?_⟩
    have hT2 : h''.get? s.heap.objs.size = some { cls := .type "tuple", data := .seq #[.int i tk, xv] } := (sb.2 _ (Nat.ne_of_gt hel)).trans hT
    have new : ObjOk X.prog X.w (upd H s.heap.objs.size (.tup [.int (i : Nat), x])) h'' s.heap.objs.size (.tup [.int (i : Nat), x]) :=
      ⟨by show 2 ≤ sizeLine; decide, [.int i tk, xv], .cons ⟨_, rfl⟩ (.cons ru .nil), ⟨_, hT2, rfl, _, rfl⟩⟩
    have I1 : Inv X pins σ (upd H s.heap.objs.size (.tup [.int (i : Nat), x])) { s with heap := h'', toks := tk + 1 } :=
      I.turnedNew (ch := [e, it]) (fun b ob hb q => (sb.2 b (fun z => hb (by simp [z]))).trans (hk b ob (fun z => hb (by simp [z])) (fun z => hb (by simp [z])) q)) hf (Nat.le_refl _) new
    refine ⟨.ref s.heap.objs.size, _, I1, rfl, ⟨_, x, rfl, I.hok.fresh (Nat.le_refl _), rfl, fun ys hy => by rw [I.tuple_inj hy hq]; exact hx⟩, ⟨⟨xv, ?_⟩, hit'.1.at fun o q => (sb.2 it (Ne.symm hei)).trans q⟩, fun b hb => ?_⟩
    · have e1 : ((i + 1 : Nat) : Int) = (i : Int) + 1 := by omega
      rw [e1]; exact he'
    · have hb' : b < s.heap.objs.size := by
        have e' : b = e ∨ b = it := by simpa using hb
        rcases e' with z | z
        · rw [z]; exact hel
        · rw [z]; exact hil
      rw [upd_ne (Nat.ne_of_lt hb')]
      exact (hf b hb).1
  done := by
    intro X hP hw hK hc i pins s σ H E I hf st hg
    subst hP hw hK
    obtain ⟨⟨old, he⟩, hit⟩ := st
    obtain ⟨xs, hq, hx⟩ := hg
    obtain ⟨its, rv, p, hz⟩ := I.tuple hq
    obtain ⟨f0, f1, f2, f3, f4, f5⟩ := hf it (by simp)
    have D := Draws.tuple (prog := X.prog) (w := X.w) (show X.A.in1.handled = none from I.ok.hd hc) it a hai its.toArray
    have hn : its.toArray.size = i := by rw [List.size_toArray, ← rv.length, hx]
    exact wpAny_pyNext_enum_endD D he (by rw [hn]; exact ⟨hit, p⟩) fun h' eb => ⟨rfl, I.turned (t' := s.toks) (fun b o hb q => eb b o hb q) f0 f1 f3 f4 f5⟩
  self := fun A i s Q E st h => let ⟨⟨_, he⟩, _⟩ := st; wpAny_pyIter_enum he h
/-- enumerate(x): x a list, a tuple, a text -/
def iEnumAny (K : PySem.W.Frag) (ta : TA) : TI := fun σ H R => ta σ H fun vs H1 => (∃ a xs, vs = [.ref a] ∧ SqL K H1 a xs ∧ R (Ite K a) H1) ∨ (∃ a xs, vs = [.ref a] ∧ SqT K H1 a xs ∧ R (IteT K a) H1) ∨ ∃ x, vs = [.str x] ∧ R (ItesD x) H1
theorem pi_enumAny {X : Cx} {e : Expr} {ta : TA} {p pos tpos : Pos} {elts : List Expr} {kk : Nat} (hg : Gl X "enumerate") (hm : X.mg "enumerate" = none) (ha : PA X [e] ta) (hs : starEach [e] X.env = [(false, eval e X.env)] := by rfl) :
    PI X (.Tuple elts kk tpos) (.Call (.Name "enumerate" p) [e] [] pos) (iEnumAny X.K ta) := by
  refine ⟨fun pins s σ H R I h => ?_⟩
  refine Call_ (ld_blt I hg hm boot_enumerate (PyProof.Rows.callWith_type1 (thn (ha.run pos pins s σ H _ I h) fun us s1 ⟨vs, H1, I1, r1, q1⟩ => ?_) hs rfl))
  have fp : ∀ b ∈ [s1.heap.objs.size + 1, s1.heap.objs.size], FpOk X pins H1 b := fun b hb => by
    have e' : b = s1.heap.objs.size + 1 ∨ b = s1.heap.objs.size := by simpa using hb
    have hle : s1.heap.objs.size ≤ b := by
      rcases e' with z | z
      · rw [z]; exact Nat.le_add_right _ _
      · rw [z]; exact Nat.le_refl _
    exact I1.fpOk hle (I1.hok.fresh hle)
  rcases q1 with ⟨a, xs, rfl, hq, q⟩ | ⟨a, xs, rfl, hq, q⟩ | ⟨x, rfl, q⟩
  · rw [Vals.ref1 r1]
    obtain ⟨its, rv, pl, hz⟩ := I1.list hq
    refine call_enumerate_list pl.isList fun h' he hit hsz hk => wpAny_pyIter_enum he ?_
    have I2 : Inv X pins σ H1 { s1 with heap := h' } := I1.kept (t' := s1.toks) hk
    exact ⟨s1.heap.objs.size + 1, [s1.heap.objs.size + 1, s1.heap.objs.size], _, _, H1, rfl, I2, turn_enum a (s1.heap.objs.size + 1) s1.heap.objs.size, ⟨⟨.none, he⟩, hit, Nat.succ_ne_self _⟩, fp, q⟩
  · rw [Vals.ref1 r1]
    obtain ⟨its, rv, pl, hz⟩ := I1.tuple hq
    have hT : s1.heap.IsTuple a its.toArray := pl
    have hal : a < s1.heap.objs.size := by obtain ⟨o, ho, _⟩ := hT; exact Heap.lt_size ho
    refine call_enumB (begins_tuple a its.toArray) hT fun h' he hit hsz hk => wpAny_pyIter_enum he ?_
    have I2 : Inv X pins σ H1 { s1 with heap := h' } := I1.kept (t' := s1.toks) hk
    exact ⟨s1.heap.objs.size + 1, [s1.heap.objs.size + 1, s1.heap.objs.size], _, _, H1, rfl, I2, turn_enumT a (s1.heap.objs.size + 1) s1.heap.objs.size (Nat.succ_ne_self _) (Nat.ne_of_lt hal) (Nat.ne_of_lt (Nat.lt_succ_of_lt hal)), ⟨⟨.none, he⟩, _, hit, rfl, rfl⟩, fp, q⟩
  · cases r1 with
    | cons r rr =>
      cases rr
      obtain ⟨t, rfl⟩ := r
      refine call_enumerate_str fun h' he hit hsz hk => wpAny_pyIter_enum he ?_
      have I2 : Inv X pins σ H1 { s1 with heap := h' } := I1.kept (t' := s1.toks) hk
      exact ⟨s1.heap.objs.size + 1, [s1.heap.objs.size + 1, s1.heap.objs.size], _, _, H1, rfl, I2, turn_enumS x t _ (strIter_two x) (s1.heap.objs.size + 1) s1.heap.objs.size, ⟨⟨.none, he⟩, hit, Nat.succ_ne_self _⟩, fp, q⟩
def itemsE : D → Option (List D)
  | .lst ds => some ds
  | .tup ds => some ds
  | .str z => some (signsD z)
  | _ => none
def iEA (da : DE) : DI := fun E Q => da E fun r E1 => walkOf E1 r fun d fin E2 => ∃ ds, itemsE d = some ds ∧ Q (enumD ds) fin E2
section
variable {X : Cx} {kt : Bool} {K : PySem.W.Frag} {S H S1 H1 : Hp} {σ : L2.St} {E : List Cell} {v : V} {a : Expr} {da : DE} {dr : DR} {pos p : Pos}
theorem so_enumT {A : Addr → Prop} {q : Addr} {ds : List D} (h : Kept kt K S1 H1 A (.ref q) (.tup ds)) : SrcOk kt K S1 H1 A (IteT K q) (enumD ds) := by
  have at_ : ∀ S H σ E, SI kt K S H σ E → Fr S1 H1 A S H (ownA σ E) → ∃ vs, SqT K H q vs ∧ RpL kt K S vs ds := fun S H σ E I F => by
    obtain ⟨p, vs, e, h1, h2⟩ := (h.at F).vw.tup I.ex
    cases e
    exact ⟨vs, h1, h2⟩
  refine ⟨fun S H σ E I F i hi => ?_, fun S H σ E I F => ?_, fun S H σ E I F i x H' hi hy => ?_⟩
  · rw [enumD_len] at hi
    obtain ⟨vs, h1, h2⟩ := at_ S H σ E I F
    obtain ⟨v, h3, _⟩ := h2.get (List.getElem?_eq_getElem hi)
    exact ⟨vs, v, h1, h3⟩
  · obtain ⟨vs, h1, h2⟩ := at_ S H σ E I F
    exact ⟨vs, h1, by rw [enumD_len, h2.length]⟩
  · rw [enumD_len] at hi
    obtain ⟨vs, h1, h2⟩ := at_ S H σ E I F
    obtain ⟨T, y, rfl, hT, rfl, hv⟩ := hy
    obtain ⟨v, h3, h4⟩ := h2.get (List.getElem?_eq_getElem hi)
    have := hv vs h1
    rw [h3] at this; cases this
    obtain ⟨S', e, r⟩ := ev_pair I hT (.int (i : Nat)) h4
    exact ⟨S', _, enumD_get (List.getElem?_eq_getElem hi), e, r⟩
theorem si_enumA {elts : List Expr} {kk : Nat} {tpos : Pos} (hg : Gl X "enumerate") (hm : X.mg "enumerate" = none) (ha : SE X kt a da) (hs : starEach [a] X.env = [(false, eval a X.env)] := by rfl) (hs1 : starEach [a] X.env = (false, eval a X.env) :: starEach [] X.env := by rfl) : SI_ X kt (.Tuple elts kk tpos) (.Call (.Name "enumerate" p) [a] [] pos) (iEA da) := by
  obtain ⟨t, q, l⟩ := ha.ex
  refine ⟨_, pi_enumAny hg hm (pa_cons q pa_nil hs1) hs, fun S H σ E Q R I h k => l S H σ E _ _ I h fun S1 H1 E1 v r e1 q1 n1 h1 => ?_⟩
  obtain ⟨S2, E2, fin, d, pr, kp, ds, hd, h2⟩ := walk_ok I e1 q1 n1 h1
  cases d with
  | lst ds' =>
    cases hd
    obtain ⟨p, vs, rfl, hp, _⟩ := kp.vw.lst pr.si.ex
    exact .inl ⟨p, vs, rfl, .of hp, k _ _ _ _ _ _ pr (so_enum kp) h2⟩
  | tup ds' =>
    cases hd
    obtain ⟨p, vs, rfl, hp, _⟩ := kp.vw.tup pr.si.ex
    exact .inr (.inl ⟨p, vs, rfl, hp, k _ _ _ _ _ _ pr (so_enumT kp) h2⟩)
  | str z =>
    cases hd
    exact .inr (.inr ⟨z, by rw [kp.vw.str], k _ _ _ _ _ _ pr so_enumS h2⟩)
  | _ => cases hd
end
end BD
set_option Elab.async false
set_option linter.all false
set_option maxRecDepth 100000
set_option maxHeartbeats 4000000
/-! BD: zip(a, b, strict=True) of lists, tuples. -/
namespace BD
open PySem PySem.Spec PyProof.Rows L2
abbrev IsZs (h : Heap) (z TI TO : Addr) (f0 : Value) : Prop :=
  h.get? z = some { cls := .type "zip", dict := none, data := .fields #[f0, .bool false, .bool true, .ref TI, .ref TO], slots := #[] }
section
variable {prog : Program} {w : World} {A : Around} {E : Value → Shared → Prop} {s : Shared} {z TI TO i1 i2 : Addr} {fp1 fp2 : List Addr} {n i : Nat} {P1 P2 : Nat → Value → Prop} {St1 St2 : Nat → Heap → Prop} {a1 a2 : Value}
theorem noe_item {it : Addr} {fp : List Addr} {P : Nat → Value → Prop} {St : Nat → Heap → Prop} {Q : Option Value → Shared → Prop} (D : Draws prog w A it fp n P St) (hlt : i < n) (st : St i s.heap)
    (h : ∀ x h' tk, P i x → St (i + 1) h' → Heap.SameBut it s.heap h' → Q (some x) { s with heap := h', toks := tk }) : wpAny (model prog w) A (Builtin.SmallTypes.nextOrEnd (.ref it)) Q E s := by
  unfold Builtin.SmallTypes.nextOrEnd
  exact wpAny_bind (wpAny_attempt (D.item i s _ _ hlt st fun x h' tk a b c => wpAny_pure (h x h' tk a b c)))
theorem noe_done {it : Addr} {fp : List Addr} {P : Nat → Value → Prop} {St : Nat → Heap → Prop} {Q : Option Value → Shared → Prop} (D : Draws prog w A it fp n P St) (st : St n s.heap)
    (h : ∀ h', Heap.ExtBut it s.heap h' → Q none { s with heap := h' }) : wpAny (model prog w) A (Builtin.SmallTypes.nextOrEnd (.ref it)) Q E s := by
  unfold Builtin.SmallTypes.nextOrEnd
  refine wpAny_bind (wpAny_attempt (D.done s _ _ st fun h' e k he => ?_))
  obtain ⟨o, ho, hc⟩ := he
  exact wpAny_bind (wpAny_isInstance (T := "StopIteration") (b := true) ⟨o, ho, hc⟩ isSubtype_stop (wpAny_pure (h h' k)))
theorem stop_raise {α : Type} {Q : α → Shared → Prop} (hh : A.handled = none) (h : ∀ h' e, (∀ b o, s.heap.get? b = some o → h'.get? b = some o) → (∃ o, h'.get? e = some o ∧ o.cls = .type "StopIteration") → E (.ref e) { s with heap := h' }) :
    wpAny (model prog w) A (Builtin.SmallTypes.stopIteration : Sem α) Q E s := by
  unfold Builtin.SmallTypes.stopIteration
  refine wpAny_bind ?_
  simp only [newExc, newTuple]
  refine wpAny_bind (wpAny_newObj_type ?_ (by size_fits))
  refine wpAny_bind (m := firstArgMember _ _) (wpAny_of_eq (a := Value.none) (by first | rfl | (simp only [firstArgMember]; rfl)) ?_)
  refine wpAny_newObj_type ?_ (by size_fits)
  refine wpAny_raiseNew_none hh (h _ _ (fun b o e => Heap.get?_push_of_some _ (Heap.get?_push_of_some _ e)) ⟨_, Heap.get?_push_size _ rfl, rfl⟩)
theorem zs_next_item {Q : Value → Shared → Prop} (S : ZipSep2 z TI TO i1 i2 fp1 fp2) (D1 : Draws prog w A i1 fp1 n P1 St1) (D2 : Draws prog w A i2 fp2 n P2 St2)
    (hz : IsZs s.heap z TI TO .none) (hTI : IsTupOf2 s.heap TI (.ref i1) (.ref i2)) (hTO : IsTupOf2 s.heap TO a1 a2) (st1 : St1 i s.heap) (st2 : St2 i s.heap) (hlt : i < n)
    (hQ : ∀ x1 x2 h' tk, P1 i x1 → P2 i x2 → IsZs h' z TI TO (rawInt s.heap.objs.size) → IsTupOf2 h' TO x1 x2 → St1 (i + 1) h' → St2 (i + 1) h' → IsTupOf2 h' s.heap.objs.size x1 x2 → h'.objs.size = s.heap.objs.size + 1 →
      (∀ c o, c ≠ z → c ≠ TO → c ≠ i1 → c ≠ i2 → s.heap.get? c = some o → h'.get? c = some o) → Q (.ref s.heap.objs.size) { s with heap := h', toks := tk }) :
    wpAny (model prog w) A (Builtin.«zip.__next__» ⟨[.ref z], []⟩) (fun fin s' => ∃ v, fin = .done (.ret v) ∧ Q v s') E s := by
  obtain ⟨hp, g, d, tk0, os⟩ := s
  show wpAny _ _ (field (.ref z) 2 >>= _) _ _ _
  refine wpAny_bind (wpAny_field hz rfl (x := .bool true) rfl ?_)
  show wpAny _ _ (field (.ref z) 3 >>= _) _ _ _
  refine wpAny_bind (wpAny_field hz rfl (x := .ref TI) rfl ?_)
  refine wpAny_bind (wpAny_seqItems hTI rfl ?_)
  show wpAny _ _ (Builtin.SmallTypes.ownedTupleIsFree (.ref z) >>= _) _ _ _
  refine wpAny_bind ?_
  unfold Builtin.SmallTypes.ownedTupleIsFree
  refine wpAny_bind (wpAny_field hz rfl (x := .none) rfl (wpAny_pure ?_))
  simp only [if_true]
  refine wpAny_bind (wpAny_rule ?_)
  refine wpAny_bind (wpAny_field hz rfl (x := .ref TO) rfl ?_)
  refine wpAny_bind (wpAny_setField_rec hz (by simp) fun g0 hz0 hs0 => ?_)
  replace hz0 : IsZs g0 z TI TO .ellipsis := hz0
  replace hs0 : Heap.SameBut z hp g0 := hs0
  refine wpAny_bind ?_
  simp only [List.zipIdx_cons, List.zipIdx_nil, List.forIn_cons, List.forIn_nil]
  refine wpAny_bind (wpAny_bind (wpAny_onRaise ?_))
  show wpAny _ _ (Builtin.SmallTypes.nextOrEnd (.ref i1)) _ _ ⟨g0, g, d, tk0, os⟩
  refine noe_item D1 (i := i) hlt (D1.over st1 hs0 S.zf1) fun x1 p1 tk1 hx1 sn1 hp1 => ?_
  replace hp1 : Heap.SameBut i1 g0 p1 := hp1
  have hU1 : IsTupOf2 p1 TO a1 a2 := hp1.extBut _ _ S.Ti1 (hs0.extBut _ _ S.TOz hTO)
  refine wpAny_bind (wpAny_seqItems (s := ⟨p1, g, d, tk1, os⟩) hU1 rfl ?_)
  refine wpAny_bind (updateSeq_IsTupOf2 (s := ⟨p1, g, d, tk1, os⟩) hU1 fun g1 hT1 hs1 => ?_)
  replace hT1 : IsTupOf2 g1 TO x1 a2 := hT1
  replace hs1 : Heap.SameBut TO p1 g1 := hs1
  refine wpAny_bind (wpAny_letGo (wpAny_pure ?_))
  refine wpAny_bind (wpAny_bind (wpAny_onRaise ?_))
  show wpAny _ _ (Builtin.SmallTypes.nextOrEnd (.ref i2)) _ _ ⟨g1, g, d, tk1, os⟩
  refine noe_item D2 (i := i) hlt (D2.over (D2.over (D2.over st2 hs0 S.zf2) hp1 S.sep1_2) hs1 S.Tf2) fun x2 p2 tk2 hx2 sn2 hp2 => ?_
  replace hp2 : Heap.SameBut i2 g1 p2 := hp2
  have hU2 : IsTupOf2 p2 TO x1 a2 := hp2.extBut _ _ S.Ti2 hT1
  refine wpAny_bind (wpAny_seqItems (s := ⟨p2, g, d, tk2, os⟩) hU2 rfl ?_)
  refine wpAny_bind (updateSeq_IsTupOf2 (s := ⟨p2, g, d, tk2, os⟩) hU2 fun g2 hT2 hs2 => ?_)
  replace hT2 : IsTupOf2 g2 TO x1 x2 := hT2
  replace hs2 : Heap.SameBut TO p2 g2 := hs2
  refine wpAny_bind (wpAny_letGo (wpAny_pure (wpAny_pure ?_)))
  refine wpAny_bind (wpAny_seqItems (s := ⟨g2, g, d, tk2, os⟩) hT2 rfl ?_)
  refine wpAny_bind (wpAny_newTuple ?_)
  have hsz : g2.objs.size = hp.objs.size := by rw [hs2.1, hp2.1, hs1.1, hp1.1, hs0.1]
  have hzz : IsZs g2 z TI TO .ellipsis := hs2.extBut _ _ S.TOz.symm (hp2.extBut _ _ S.zi2 (hs1.extBut _ _ S.TOz.symm (hp1.extBut _ _ S.zi1 hz0)))
  have hkk : ∀ c o, c ≠ z → c ≠ TO → c ≠ i1 → c ≠ i2 → hp.get? c = some o → g2.get? c = some o := fun c o cz cT c1 c2 e =>
    hs2.extBut _ _ cT (hp2.extBut _ _ c2 (hs1.extBut _ _ cT (hp1.extBut _ _ c1 (hs0.extBut _ _ cz e))))
  have hj1 : St1 (i + 1) g2 := D1.over (D1.over (D1.over sn1 hs1 S.Tf1) hp2 S.sep2_1) hs2 S.Tf1
  have hj2 : St2 (i + 1) g2 := D2.over sn2 hs2 S.Tf2
  have hzlt : z < g2.objs.size := Heap.lt_size hzz
  show wpAny _ _ (Builtin.SmallTypes.ownedTupleHandOut (.ref z) (.ref g2.objs.size) >>= _) _ _ ⟨g2.push { cls := .type "tuple", data := .seq #[x1, x2] }, g, d, tk2, os⟩
  refine wpAny_bind ?_
  unfold Builtin.SmallTypes.ownedTupleHandOut
  have hz6 : IsZs (g2.push { cls := .type "tuple", data := .seq #[x1, x2] }) z TI TO .ellipsis := Heap.get?_push_of_some _ hzz
  refine wpAny_bind (wpAny_setField_rec hz6 (by simp) fun h7 hz7 hs7 => ?_)
  replace hz7 : IsZs h7 z TI TO (rawInt g2.objs.size) := hz7
  refine wpAny_setField_rec hz7 (by simp) fun h8 hz8 hs8 => ?_
  replace hz8 : IsZs h8 z TI TO (rawInt g2.objs.size) := hz8
  replace hs7 : Heap.SameBut z (g2.push { cls := .type "tuple", data := .seq #[x1, x2] }) h7 := hs7
  replace hs8 : Heap.SameBut z h7 h8 := hs8
  have up : ∀ c o, c ≠ z → g2.get? c = some o → h8.get? c = some o := fun c o c1 e => hs8.extBut _ _ c1 (hs7.extBut _ _ c1 (Heap.get?_push_of_some _ e))
  have hT8 : IsTupOf2 h8 g2.objs.size x1 x2 := hs8.extBut _ _ (Nat.ne_of_gt hzlt) (hs7.extBut _ _ (Nat.ne_of_gt hzlt) (Heap.get?_push_size _ rfl))
  have hn8 : h8.objs.size = g2.objs.size + 1 := by rw [hs8.1, hs7.1, Heap.size_push]
  rw [hsz] at hz8 hT8 hn8
  refine wpAny_pure ⟨_, rfl, ?_⟩
  show Q (.ref g2.objs.size) ⟨h8, g, d, tk2, os⟩
  rw [hsz]
  exact hQ x1 x2 h8 tk2 hx1 hx2 hz8 (up _ _ S.TOz hT2) (D1.frame _ _ _ hj1 fun b hb o e => up b o (fun q => S.zf1 (q ▸ hb)) e) (D2.frame _ _ _ hj2 fun b hb o e => up b o (fun q => S.zf2 (q ▸ hb)) e) hT8 hn8 fun c o cz cT c1 c2 e => up c o cz (hkk c o cz cT c1 c2 e)
theorem zs_next_end {Q : Fin → Shared → Prop} (hh : A.handled = none) (S : ZipSep2 z TI TO i1 i2 fp1 fp2) (D1 : Draws prog w A i1 fp1 n P1 St1) (D2 : Draws prog w A i2 fp2 n P2 St2)
    (hz : IsZs s.heap z TI TO .none) (hTI : IsTupOf2 s.heap TI (.ref i1) (.ref i2)) (hTO : IsTupOf2 s.heap TO a1 a2) (st1 : St1 n s.heap) (st2 : St2 n s.heap)
    (hE : ∀ h' e, (∀ c o, c ≠ z → c ≠ TO → c ≠ i1 → c ≠ i2 → s.heap.get? c = some o → h'.get? c = some o) → (∃ o, h'.get? e = some o ∧ o.cls = .type "StopIteration") → E (.ref e) { s with heap := h' }) :
    wpAny (model prog w) A (Builtin.«zip.__next__» ⟨[.ref z], []⟩) Q E s := by
  obtain ⟨hp, g, d, tk0, os⟩ := s
  show wpAny _ _ (field (.ref z) 2 >>= _) _ _ _
  refine wpAny_bind (wpAny_field hz rfl (x := .bool true) rfl ?_)
  show wpAny _ _ (field (.ref z) 3 >>= _) _ _ _
  refine wpAny_bind (wpAny_field hz rfl (x := .ref TI) rfl ?_)
  refine wpAny_bind (wpAny_seqItems hTI rfl ?_)
  show wpAny _ _ (Builtin.SmallTypes.ownedTupleIsFree (.ref z) >>= _) _ _ _
  refine wpAny_bind ?_
  unfold Builtin.SmallTypes.ownedTupleIsFree
  refine wpAny_bind (wpAny_field hz rfl (x := .none) rfl (wpAny_pure ?_))
  simp only [if_true]
  refine wpAny_bind (wpAny_rule ?_)
  refine wpAny_bind (wpAny_field hz rfl (x := .ref TO) rfl ?_)
  refine wpAny_bind (wpAny_setField_rec hz (by simp) fun g0 hz0 hs0 => ?_)
  replace hz0 : IsZs g0 z TI TO .ellipsis := hz0
  replace hs0 : Heap.SameBut z hp g0 := hs0
  refine wpAny_bind ?_
  simp only [List.zipIdx_cons, List.zipIdx_nil, List.forIn_cons, List.forIn_nil]
  refine wpAny_bind (wpAny_bind (wpAny_onRaise ?_))
  show wpAny _ _ (Builtin.SmallTypes.nextOrEnd (.ref i1)) _ _ ⟨g0, g, d, tk0, os⟩
  refine noe_done D1 (D1.over st1 hs0 S.zf1) fun q hq => ?_
  replace hq : Heap.ExtBut i1 g0 q := hq
  have hzq : IsZs q z TI TO .ellipsis := hq _ _ S.zi1 hz0
  refine wpAny_bind (wpAny_setField_rec (s := ⟨q, g, d, tk0, os⟩) hzq (by simp) fun q' hzq' hq' => ?_)
  replace hq' : Heap.SameBut z q q' := hq'
  have st2' : St2 n q' := D2.frame _ _ _ st2 fun b hb o e => hq'.extBut _ _ (fun x => S.zf2 (x ▸ hb)) (hq _ _ (fun x => S.sep1_2 (x ▸ hb)) (hs0.extBut _ _ (fun x => S.zf2 (x ▸ hb)) e))
  refine wpAny_bind (wpAny_bind ?_)
  simp only [List.drop_succ_cons, List.drop_zero, List.zipIdx_cons, List.zipIdx_nil, List.forIn_cons, List.forIn_nil]
  refine wpAny_bind (wpAny_bind (noe_done (s := ⟨q', g, d, tk0, os⟩) D2 st2' fun r hr => ?_))
  replace hr : Heap.ExtBut i2 q' r := hr
  refine wpAny_pure (wpAny_pure (wpAny_bind (wpAny_rule ?_)))
  refine stop_raise (s := ⟨r, g, d, tk0, os⟩) hh fun h' e k he => ?_
  exact hE h' e (fun c o cz cT c1 c2 x => k _ _ (hr _ _ c2 (hq'.extBut _ _ cz (hq _ _ c1 (hs0.extBut _ _ cz x))))) he
theorem pyNext_zs_item {Q : Option Value → Shared → Prop} (S : ZipSep2 z TI TO i1 i2 fp1 fp2) (D1 : Draws prog w A.in1 i1 fp1 n P1 St1) (D2 : Draws prog w A.in1 i2 fp2 n P2 St2)
    (hz : IsZs s.heap z TI TO .none) (hTI : IsTupOf2 s.heap TI (.ref i1) (.ref i2)) (hTO : IsTupOf2 s.heap TO a1 a2) (st1 : St1 i s.heap) (st2 : St2 i s.heap) (hlt : i < n)
    (hQ : ∀ x1 x2 h' tk, P1 i x1 → P2 i x2 → IsZs h' z TI TO (rawInt s.heap.objs.size) → IsTupOf2 h' TO x1 x2 → St1 (i + 1) h' → St2 (i + 1) h' → IsTupOf2 h' s.heap.objs.size x1 x2 → h'.objs.size = s.heap.objs.size + 1 →
      (∀ c o, c ≠ z → c ≠ TO → c ≠ i1 → c ≠ i2 → s.heap.get? c = some o → h'.get? c = some o) → Q (some (.ref s.heap.objs.size)) { s with heap := h', toks := tk }) :
    wpAny (model prog w) A (pyNext (.ref z)) Q E s := by
  have hT : s.TypeIs (.ref z) "zip" := ⟨_, hz, rfl⟩
  unfold pyNext
  exact wpAny_bind (wpAny_attempt (wpAny_callSpecial?_slot (name := Str.ofString "__next__") hT F.slot_zip_next
    (wpAny_call_entry F.slot_zip_next hT F.entry_zip_next (zs_next_item S D1 D2 hz hTI hTO st1 st2 hlt fun x1 x2 h' tk y1 y2 b1 b2 d1 d2 b5 b6 b7 => wpAny_pure (hQ x1 x2 h' tk y1 y2 b1 b2 d1 d2 b5 b6 b7)) (F.args_zip_next_1 _))))
theorem pyNext_zs_end {Q : Option Value → Shared → Prop} (hh : A.handled = none) (S : ZipSep2 z TI TO i1 i2 fp1 fp2) (D1 : Draws prog w A.in1 i1 fp1 n P1 St1) (D2 : Draws prog w A.in1 i2 fp2 n P2 St2)
    (hz : IsZs s.heap z TI TO .none) (hTI : IsTupOf2 s.heap TI (.ref i1) (.ref i2)) (hTO : IsTupOf2 s.heap TO a1 a2) (st1 : St1 n s.heap) (st2 : St2 n s.heap)
    (hQ : ∀ h', (∀ c o, c ≠ z → c ≠ TO → c ≠ i1 → c ≠ i2 → s.heap.get? c = some o → h'.get? c = some o) → Q none { s with heap := h' }) : wpAny (model prog w) A (pyNext (.ref z)) Q E s := by
  have hT : s.TypeIs (.ref z) "zip" := ⟨_, hz, rfl⟩
  unfold pyNext
  refine wpAny_bind (wpAny_attempt (wpAny_callSpecial?_slot (name := Str.ofString "__next__") hT F.slot_zip_next
    (wpAny_call_entry F.slot_zip_next hT F.entry_zip_next (zs_next_end hh S D1 D2 hz hTI hTO st1 st2 fun h' e hk he => ?_) (F.args_zip_next_1 _))))
  obtain ⟨o, ho, hc⟩ := he
  exact wpAny_bind (wpAny_isInstance (T := "StopIteration") (b := true) ⟨o, ho, hc⟩ isSubtype_stop (wpAny_pure (hQ _ hk)))
theorem letGo_zs {elts : List Expr} {x1} {pos : Pos} {T : Addr} {Q : Unit → Shared → Prop} (hz : IsZs s.heap z TI TO (rawInt T))
    (hQ : ∀ h', IsZs h' z TI TO .none → Heap.SameBut z s.heap h' → Q () { s with heap := h' }) :
    wpAny (model prog w) A (letOwnedTupleGo (.Tuple elts x1 pos) (.ref z) (.ref T)) Q E s := by
  unfold letOwnedTupleGo
  refine wpAny_bind (wpAny_load hz ?_)
  show wpAny _ _ (ite ((_ && (#[rawInt T, .bool false, .bool true, .ref TI, .ref TO] : Array Value)[0]? == some (rawInt T)) = true) _ _) Q E s
  rw [if_pos (by simp)]
  refine wpAny_bind (wpAny_rule ?_)
  show wpAny _ _ (setField (.ref z) 0 .none) Q E s
  exact wpAny_setField_rec hz (by simp) fun h' hz' hs' => hQ h' hz' hs'
theorem pyIter_zs {f0 : Value} {Q : Value → Shared → Prop} (hz : IsZs s.heap z TI TO f0) (h : Q (.ref z) s) : wpAny (model prog w) A (pyIter (.ref z)) Q E s := by
  have hT : s.TypeIs (.ref z) "zip" := ⟨_, hz, rfl⟩
  refine wpAny_pyIter_slot hT F.slot_zip_iter (wpAny_call_entry F.slot_zip_iter hT F.entry_zip_iter ?_ (F.args_zip_iter_1 _))
  show wpAny _ _ (ret (.ref z)) _ _ s
  exact wpAny_pure ⟨_, rfl, "zip", _, hT, F.slot_zip_next.lookup, h⟩
end
/-! the call -/
theorem typeCall_zs (a b c : Value) : checkTypeCall "zip" ⟨[a, b], [(Str.ofString "strict", c)]⟩ = pure () := by kernel_rfl
theorem newCall_zs (a b c : Value) : checkBuiltinCall "zip.__new__" ⟨[.type "zip", a, b], [(Str.ofString "strict", c)]⟩ = pure () := by kernel_rfl
theorem args_init_zs (obj a b c : Value) : argsOk "object.__init__" ⟨[obj, a, b], [(Str.ofString "strict", c)]⟩ := by unfold argsOk; kernel_rfl
abbrev zsT (h : Heap) (o1 o2 : Obj) : Heap := ((h.push o1).push o2).push { cls := .type "tuple", data := .seq #[.ref h.objs.size, .ref (h.push o1).objs.size] }
abbrev zsO (h : Heap) (o1 o2 : Obj) : Heap := (zsT h o1 o2).push { cls := .type "tuple", data := .seq #[.none, .none] }
abbrev zsZ (h : Heap) (o1 o2 : Obj) : Heap := (zsO h o1 o2).push { cls := .type "zip", data := .fields #[.none, .bool false, .bool true, .ref ((h.push o1).push o2).objs.size, .ref (zsT h o1 o2).objs.size] }
theorem meets_zs_new {v1 v2 : Value} {o1 o2 : Obj} {H1 H2 : Heap → Prop} (B1 : Begins v1 o1 H1) (B2 : Begins v2 o2 H2) :
    Meets (Builtin.«zip.__new__» ⟨[.type "zip", v1, v2], [(Str.ofString "strict", .bool true)]⟩) (fun _ R s => (H1 s.heap ∧ H2 s.heap) ∧
      R (.ok (.ret (.ref (zsO s.heap o1 o2).objs.size))) { s with heap := zsZ s.heap o1 o2 }) :=
  .of_wp fun prog w A R s h => by
    obtain ⟨hp, g, d, tk, os⟩ := s; obtain ⟨⟨h1, h2⟩, h⟩ := h
    have hsub := sub_zip
    have q1 : ∀ {A' : Around} {E : Value → Shared → Prop} {Q : Value → Shared → Prop}, Q (.ref hp.objs.size) ⟨(hp.push o1), g, d, tk, os⟩ → wpAny (model prog w) A' (pyIter v1) Q E ⟨hp, g, d, tk, os⟩ :=
      fun q => B1.iter prog w _ _ ⟨hp, g, d, tk, os⟩ _ (B1.keeps _ _ h1 fun b o' e => e) q
    have q2 : ∀ {A' : Around} {E : Value → Shared → Prop} {Q : Value → Shared → Prop}, Q (.ref (hp.push o1).objs.size) ⟨((hp.push o1).push o2), g, d, tk, os⟩ → wpAny (model prog w) A' (pyIter v2) Q E ⟨(hp.push o1), g, d, tk, os⟩ :=
      fun q => B2.iter prog w _ _ ⟨(hp.push o1), g, d, tk, os⟩ _ (B2.keeps _ _ h2 fun b o' e => (Heap.get?_push_of_some _ e)) q
    have e1 : (Str.ofString "strict" == ("strict" : Str)) = true := by decide +kernel
    have e2 : (Str.ofString "strict" != ("strict" : Str)) = false := by decide +kernel
    wp_walk using q1, q2
    exact ⟨_, rfl, h⟩
section
variable {prog : Program} {w : World} {A : Around} {E : Value → Shared → Prop} {s : Shared}
theorem zs_begins {v1 v2 : Value} {o1 o2 : Obj} {H1 H2 : Heap → Prop} {Q : Value → Shared → Prop} (B1 : Begins v1 o1 H1) (B2 : Begins v2 o2 H2) (h1 : H1 s.heap) (h2 : H2 s.heap)
    (h : ∀ h', IsZs h' (s.heap.objs.size + 4) (s.heap.objs.size + 2) (s.heap.objs.size + 3) .none → IsTupOf2 h' (s.heap.objs.size + 2) (.ref s.heap.objs.size) (.ref (s.heap.objs.size + 1)) →
      IsTupOf2 h' (s.heap.objs.size + 3) .none .none → h'.get? s.heap.objs.size = some o1 → h'.get? (s.heap.objs.size + 1) = some o2 → h'.objs.size = s.heap.objs.size + 5 →
      (∀ c o, s.heap.get? c = some o → h'.get? c = some o) → Q (.ref (s.heap.objs.size + 4)) { s with heap := h' }) :
    wpAny (model prog w) A (call (.type "zip") [v1, v2] [(Str.ofString "strict", .bool true)]) Q E s := by
  refine callType_newKw F.called_zip (by decide) (typeCall_zs _ _ _) (newCall_zs _ _ _) (fun obj => args_init_zs obj _ _ _) F.entry_zip_new (meets_zs_new B1 B2) ⟨⟨h1, h2⟩, ?_⟩
  have z1 : (s.heap.push o1).objs.size = s.heap.objs.size + 1 := by rw [Heap.size_push]
  have z2 : ((s.heap.push o1).push o2).objs.size = s.heap.objs.size + 2 := by rw [Heap.size_push, z1]
  have zT : (zsT s.heap o1 o2).objs.size = s.heap.objs.size + 3 := by rw [Heap.size_push, z2]
  have zO : (zsO s.heap o1 o2).objs.size = s.heap.objs.size + 4 := by rw [Heap.size_push, zT]
  have zZ : (zsZ s.heap o1 o2).objs.size = s.heap.objs.size + 5 := by rw [Heap.size_push, zO]
  have gZ : (zsZ s.heap o1 o2).get? (zsO s.heap o1 o2).objs.size = some { cls := .type "zip", data := .fields #[.none, .bool false, .bool true, .ref ((s.heap.push o1).push o2).objs.size, .ref (zsT s.heap o1 o2).objs.size] } := Heap.get?_push_size _ rfl
  have gO : (zsZ s.heap o1 o2).get? (zsT s.heap o1 o2).objs.size = some { cls := .type "tuple", data := .seq #[.none, .none] } := Heap.get?_push_of_some _ (Heap.get?_push_size _ rfl)
  have gT : (zsZ s.heap o1 o2).get? ((s.heap.push o1).push o2).objs.size = some { cls := .type "tuple", data := .seq #[.ref s.heap.objs.size, .ref (s.heap.push o1).objs.size] } := Heap.get?_push_of_some _ (Heap.get?_push_of_some _ (Heap.get?_push_size _ rfl))
  have g1 : (zsZ s.heap o1 o2).get? s.heap.objs.size = some o1 := Heap.get?_push_of_some _ (Heap.get?_push_of_some _ (Heap.get?_push_of_some _ (Heap.get?_push_of_some _ (Heap.get?_push_size _ B1.free))))
  have g2 : (zsZ s.heap o1 o2).get? (s.heap.push o1).objs.size = some o2 := Heap.get?_push_of_some _ (Heap.get?_push_of_some _ (Heap.get?_push_of_some _ (Heap.get?_push_size _ B2.free)))
  rw [zO, zT, z2] at gZ
  rw [zT] at gO
  rw [z2, z1] at gT
  rw [z1] at g2
  show _ ∧ _
  rw [zO]
  exact ⟨⟨_, gZ, rfl⟩, h _ gZ gT gO g1 g2 zZ fun c o e => Heap.get?_push_of_some _ (Heap.get?_push_of_some _ (Heap.get?_push_of_some _ (Heap.get?_push_of_some _ (Heap.get?_push_of_some _ e))))⟩
end
/-! ### a list (true), a tuple (false) -/
def sqx (K : PySem.W.Frag) (t : Bool) (H : Hp) (a : Addr) (xs : List V) : Prop := cond t (SqL K H a xs) (SqT K H a xs)
def itx (t : Bool) (h : Heap) (it a : Addr) (i : Nat) : Prop := cond t (h.IsListIter it a i) (h.IsTupleIter it a i)
def isx (t : Bool) (h : Heap) (a : Addr) (its : Array Value) : Prop := cond t (h.IsList a its) (h.IsTuple a its)
def objx (t : Bool) (a : Addr) : Obj := cond t { cls := .type "list_iterator", data := .fields #[.ref a, .int 0 0] } { cls := .type "tuple_iterator", data := .fields #[.ref a, .int 0 0] }
theorem begx (t : Bool) (a : Addr) (its : Array Value) : Begins (.ref a) (objx t a) fun h => isx t h a its := by
  cases t
  · exact begins_tuple a its
  · exact begins_list a its
theorem drawx {prog : Program} {w : World} {A : Around} (t : Bool) (hh : A.handled = none) (it a : Addr) (hne : a ≠ it) (its : Array Value) : Draws prog w A it [it, a] its.size (fun i v => its[i]? = some v) (fun i h => itx t h it a i ∧ isx t h a its) := by
  cases t
  · exact Draws.tuple hh it a hne its
  · exact Draws.list hh it a hne its
theorem itx_at {t : Bool} {h h' : Heap} {it a : Addr} {i : Nat} (x : itx t h it a i) (k : ∀ o, h.get? it = some o → h'.get? it = some o) : itx t h' it a i := by
  cases t
  · exact (show h.IsTupleIter it a i from x).at k
  · exact (show h.IsListIter it a i from x).at k
theorem itx_obj {t : Bool} {h : Heap} {it a : Addr} {i : Nat} (x : itx t h it a i) : ∃ o vs, h.get? it = some o ∧ o.data = .fields vs := by
  cases t
  · obtain ⟨o, h1, _, h2⟩ := (show h.IsTupleIter it a i from x); exact ⟨o, _, h1, h2⟩
  · obtain ⟨o, h1, _, h2⟩ := (show h.IsListIter it a i from x); exact ⟨o, _, h1, h2⟩
theorem itx_new {t : Bool} {h : Heap} {it a : Addr} (x : h.get? it = some (objx t a)) : itx t h it a 0 := by
  cases t
  · exact ⟨_, x, rfl, rfl⟩
  · exact ⟨_, x, rfl, rfl⟩
theorem sqx_at {X : Cx} {pins : List (Addr × Obj)} {σ : L2.St} {H : Hp} {s : Shared} {t : Bool} {a : Addr} {xs : List V} (I : Inv X pins σ H s) (h : sqx X.K t H a xs) : ∃ its, Vals xs its ∧ isx t s.heap a its.toArray ∧ a < s.heap.objs.size := by
  cases t
  · obtain ⟨its, rv, p, _⟩ := I.tuple (show SqT X.K H a xs from h)
    have hT : s.heap.IsTuple a its.toArray := p
    exact ⟨its, rv, hT, by obtain ⟨o, ho, _⟩ := hT; exact Heap.lt_size ho⟩
  · obtain ⟨its, rv, p, _⟩ := I.list (show SqL X.K H a xs from h)
    exact ⟨its, rv, p.isList, p.lt⟩
theorem sqx_inj {X : Cx} {pins : List (Addr × Obj)} {σ : L2.St} {H : Hp} {s : Shared} {t : Bool} {a : Addr} {xs ys : List V} (I : Inv X pins σ H s) (h : sqx X.K t H a xs) (h' : sqx X.K t H a ys) : xs = ys := by
  cases t
  · exact I.tuple_inj (show SqT X.K H a xs from h) h'
  · exact I.list_inj (show SqL X.K H a xs from h) h'
def Itzs (K : PySem.W.Frag) (t1 t2 : Bool) (a b : Addr) : It :=
  ⟨fun i H => ∃ (xs ys : List V) (x y : V), sqx K t1 H a xs ∧ sqx K t2 H b ys ∧ xs.length = ys.length ∧ xs[i]? = some x ∧ ys[i]? = some y,
    fun i H v H' => ∃ T x y, v = .ref T ∧ H T = none ∧ H' = upd H T (.tup [x, y]) ∧ (∀ xs, sqx K t1 H a xs → xs[i]? = some x) ∧ ∀ ys, sqx K t2 H b ys → ys[i]? = some y,
    fun i H => ∃ xs ys : List V, sqx K t1 H a xs ∧ sqx K t2 H b ys ∧ xs.length = i ∧ ys.length = i⟩
theorem turn_zs {P : Program} {w : World} {K : PySem.W.Frag} {elts : List Expr} {kk : Nat} {tpos : Pos} {t1 t2 : Bool} {a b z TI TO i1 i2 : Addr} (D : ZipSep2 z TI TO i1 i2 [i1, a] [i2, b]) (hai : a ≠ i1) (hbi : b ≠ i2) :
    Turn P w K (.Tuple elts kk tpos) (Itzs K t1 t2 a b) [z, TI, TO, i1, i2] z (fun i h => IsZs h z TI TO .none ∧ IsTupOf2 h TI (.ref i1) (.ref i2) ∧ (∃ x y, IsTupOf2 h TO x y) ∧ itx t1 h i1 a i ∧ itx t2 h i2 b i) where
  mem := by simp
  obj := fun i h st c hc => by
    obtain ⟨hz, hTI, ⟨x, y, hTO⟩, h1, h2⟩ := st
    obtain ⟨o1, f1, e1, d1⟩ := itx_obj h1
    obtain ⟨o2, f2, e2, d2⟩ := itx_obj h2
    have e' : c = z ∨ c = TI ∨ c = TO ∨ c = i1 ∨ c = i2 := by simpa using hc
    rcases e' with q | q | q | q | q
    · rw [q]; exact ⟨_, hz, fun v q => nomatch q⟩
    · rw [q]; exact ⟨_, hTI, fun v q => nomatch q⟩
    · rw [q]; exact ⟨_, hTO, fun v q => nomatch q⟩
    · rw [q]; exact ⟨o1, e1, fun v q => by rw [d1] at q; cases q⟩
    · rw [q]; exact ⟨o2, e2, fun v q => by rw [d2] at q; cases q⟩
  keep := fun i h h' st k => by
    obtain ⟨hz, hTI, ⟨x, y, hTO⟩, h1, h2⟩ := st
    exact ⟨k z (by simp) _ hz, k TI (by simp) _ hTI, ⟨x, y, k TO (by simp) _ hTO⟩, itx_at h1 fun o q => k i1 (by simp) o q, itx_at h2 fun o q => k i2 (by simp) o q⟩
  item := by
    intro X hP hw hK hc i pins s σ H E I hf st hg
    subst hP hw hK
    obtain ⟨hz, hTI, ⟨x0, y0, hTO⟩, h1, h2⟩ := st
    obtain ⟨xs, ys, x, y, hqx, hqy, hlen, hx, hy⟩ := hg
    obtain ⟨its, rv, p, _⟩ := sqx_at I hqx
    obtain ⟨its2, rv2, p2, _⟩ := sqx_at I hqy
    obtain ⟨u, hu, ru⟩ := rv.get hx
    obtain ⟨u2, hu2, ru2⟩ := rv2.get hy
    have hzl : z < s.heap.objs.size := Heap.lt_size hz
    have hh : X.A.in1.handled = none := I.ok.hd hc
    have hla : its.toArray.size = xs.length := by rw [List.size_toArray, rv.length]
    have hlb : its2.toArray.size = xs.length := by rw [List.size_toArray, ← rv2.length, hlen]
    have hlt : i < xs.length := by
      rcases Nat.lt_or_ge i xs.length with q | q
      · exact q
      · rw [List.getElem?_eq_none q] at hx; cases hx
    have D1 := drawx (prog := X.prog) (w := X.w) (A := X.A.in1) t1 hh i1 a hai its.toArray
    have D2 := drawx (prog := X.prog) (w := X.w) (A := X.A.in1) t2 hh i2 b hbi its2.toArray
    rw [hla] at D1
    rw [hlb] at D2
    refine pyNext_zs_item D D1 D2 hz hTI hTO ⟨h1, p⟩ ⟨h2, p2⟩ hlt fun x1 x2 h' tk y1 y2 z' TO' st1 st2 hT hsz hk => ?_
    have e1 : x1 = u := by
      have : its.toArray[i]? = some u := by simpa using hu
      rw [this] at y1
      exact (Option.some.inj y1).symm
    have e2 : x2 = u2 := by
      have : its2.toArray[i]? = some u2 := by simpa using hu2
      rw [this] at y2
      exact (Option.some.inj y2).symm
    subst e1 e2
    refine ⟨_, rfl, letGo_zs (s := { s with heap := h', toks := tk }) z' fun h'' z'' sb => ?_⟩
    have hT2 : h''.get? s.heap.objs.size = some { cls := .type "tuple", data := .seq #[x1, x2] } := (sb.2 _ (Nat.ne_of_gt hzl)).trans hT
    have new : ObjOk X.prog X.w (upd H s.heap.objs.size (.tup [x, y])) h'' s.heap.objs.size (.tup [x, y]) :=
      ⟨by show 2 ≤ sizeLine; decide, [x1, x2], .cons ru (.cons ru2 .nil), ⟨_, hT2, rfl, _, rfl⟩⟩
    have I1 : Inv X pins σ (upd H s.heap.objs.size (.tup [x, y])) { s with heap := h'', toks := tk } :=
      I.turnedNew (t' := tk) (ch := [z, TI, TO, i1, i2]) (fun c o hb q => (sb.2 c (fun q' => hb (by simp [q']))).trans (hk c o (fun q' => hb (by simp [q'])) (fun q' => hb (by simp [q'])) (fun q' => hb (by simp [q'])) (fun q' => hb (by simp [q'])) q)) hf (Nat.le_refl _) new
    refine ⟨.ref s.heap.objs.size, _, I1, rfl, ⟨_, x, y, rfl, I.hok.fresh (Nat.le_refl _), rfl, fun l hl => by rw [sqx_inj I hl hqx]; exact hx, fun l hl => by rw [sqx_inj I hl hqy]; exact hy⟩, ⟨z'', ?_, ⟨x1, x2, ?_⟩, ?_, ?_⟩, fun c hcm => ?_⟩
    · exact (sb.2 _ D.TIz).trans (hk _ _ D.TIz D.TITO D.TIi1 D.TIi2 hTI)
    · exact (sb.2 _ D.TOz).trans TO'
    · exact itx_at st1.1 fun o q => (sb.2 _ (Ne.symm D.zi1)).trans q
    · exact itx_at st2.1 fun o q => (sb.2 _ (Ne.symm D.zi2)).trans q
    · have hlt : c < s.heap.objs.size := by
        have e' : c = z ∨ c = TI ∨ c = TO ∨ c = i1 ∨ c = i2 := by simpa using hcm
        rcases e' with q | q | q | q | q
        · rw [q]; exact hzl
        · rw [q]; exact Heap.lt_size hTI
        · rw [q]; exact Heap.lt_size hTO
        · rw [q]; obtain ⟨_, _, e1, _⟩ := itx_obj h1; exact Heap.lt_size e1
        · rw [q]; obtain ⟨_, _, e2, _⟩ := itx_obj h2; exact Heap.lt_size e2
      rw [upd_ne (Nat.ne_of_lt hlt)]
      exact (hf c hcm).1
  done := by
    intro X hP hw hK hc i pins s σ H E I hf st hg
    subst hP hw hK
    obtain ⟨hz, hTI, ⟨x0, y0, hTO⟩, h1, h2⟩ := st
    obtain ⟨xs, ys, hqx, hqy, hi1, hi2⟩ := hg
    obtain ⟨its, rv, p, _⟩ := sqx_at I hqx
    obtain ⟨its2, rv2, p2, _⟩ := sqx_at I hqy
    have hh : X.A.in1.handled = none := I.ok.hd hc
    have hla : its.toArray.size = i := by rw [List.size_toArray, ← rv.length, hi1]
    have hlb : its2.toArray.size = i := by rw [List.size_toArray, ← rv2.length, hi2]
    have D1 := drawx (prog := X.prog) (w := X.w) (A := X.A.in1) t1 hh i1 a hai its.toArray
    have D2 := drawx (prog := X.prog) (w := X.w) (A := X.A.in1) t2 hh i2 b hbi its2.toArray
    rw [hla] at D1
    rw [hlb] at D2
    exact pyNext_zs_end hh D D1 D2 hz hTI hTO ⟨h1, p⟩ ⟨h2, p2⟩ fun h' hk => ⟨rfl, I.turnedL (t' := s.toks) (ch := [z, TI, TO, i1, i2]) (fun c o hb q =>
      hk c o (fun q' => hb (by simp [q'])) (fun q' => hb (by simp [q'])) (fun q' => hb (by simp [q'])) (fun q' => hb (by simp [q'])) q) hf⟩
  self := fun A i s Q E st h => pyIter_zs st.1 h
theorem callWith_typeKw {M : Model} {A : Around} {E : Value → Shared → Prop} {s : Shared} {env : Env} {pos : Pos} {T : String} {e : Expr} {rest : List Expr} {kws : List Keyword} {Q : Value → Shared → Prop}
    (h : wpAny M A (spliced (backTo pos (starEach (e :: rest) env))) (fun vs s₁ => wpAny M A (evalAll ((backToKw pos (keywordEach kws env)).map (·.2)))
      (fun kvs s₂ => wpAny M A (call (.type T) vs (((backToKw pos (keywordEach kws env)).filterMap (·.1)).zip kvs)) Q E s₂) E s₁) E s)
    (he : starEach (e :: rest) env = (false, eval e env) :: starEach rest env)
    (hplain : (backTo pos (starEach rest env)).any (·.1) = false)
    (hall : (backToKw pos (keywordEach kws env)).all (·.1.isSome) = true)
    (hkw : (backToKw pos (keywordEach kws env)).any (·.1.isNone) = false) :
    wpAny M A (callWith pos (.type T) [] (backTo pos (starEach (e :: rest) env)) (backToKw pos (keywordEach kws env))) Q E s := by
  have hb : backTo pos ((false, eval e env) :: starEach rest env) = (false, eval e env) :: backTo pos (starEach rest env) := rfl
  rw [he, hb] at h ⊢
  have h2 := evalArgs_kwB (f := .type T) (Q := fun a s₂ => wpAny M A (call (.type T) a.pos a.kw) Q E s₂) (x := eval e env) (rest := backTo pos (starEach rest env)) hall h
  have hp : ((false, eval e env) :: backTo pos (starEach rest env)).any (·.1) = false := by show (false || (backTo pos (starEach rest env)).any (·.1)) = false; rw [hplain]; rfl
  unfold callWith
  refine wpAny_bind (wpAny_holding (wpAny_mono h2 (fun a s₁ h₁ => wpAny_bind (wpAny_standAt ?_)) fun _ _ x => x))
  simp only [hp, hkw, Bool.or_false]
  refine wpAny_bind (wpAny_pure ?_)
  exact wpAny_bind (wpAny_mono h₁ (fun r s₂ hr => wpAny_bind (wpAny_holding (wpAny_point (wpAny_pure hr)))) fun _ _ x => x)
def iZs (K : PySem.W.Frag) (ta : TA) : TI := fun σ H R => ta σ H fun vs H1 => ∃ t1 t2 a b xs ys, vs = [.ref a, .ref b] ∧ sqx K t1 H1 a xs ∧ sqx K t2 H1 b ys ∧ R (Itzs K t1 t2 a b) H1
theorem pi_zs {X : Cx} {e e2 : Expr} {ta : TA} {p pos tpos p1 p2 : Pos} {elts : List Expr} {kk : Nat} {jj} (hg : Gl X "zip") (hm : X.mg "zip" = none) (ha : PA X [e, e2] ta)
    (hs : starEach [e, e2] X.env = (false, eval e X.env) :: starEach [e2] X.env := by rfl) (hpl : (backTo pos (starEach [e2] X.env)).any (·.1) = false := by rfl) :
    PI X (.Tuple elts kk tpos) (.Call (.Name "zip" p) [e, e2] [⟨some (Str.ofString "strict"), .Constant (.bool true) jj p1, p2⟩] pos) (iZs X.K ta) := by
  refine ⟨fun pins s σ H R I h => ?_⟩
  refine wpAny_Call_Name_kw (ld_blt I hg hm PyProof.Rows.boot_zip (callWith_typeKw (thn (ha.run pos pins s σ H _ I h) fun us s1 ⟨vs, H1, I1, r1, q1⟩ => ?_) hs hpl rfl rfl))
  refine thn ((pk_cons (nm := some (Str.ofString "strict")) (kpos := p2) (pe_bl (X := X) (b := true) (j := jj) (pos := p1)) pk_nil).run pos pins s1 σ H1 (fun zs H2 => zs = [.bl true] ∧ H2 = H1) I1 ⟨rfl, rfl⟩) fun kvs s2 ⟨zs, H2, I2, rz, ez, eH⟩ => ?_
  subst ez eH
  cases rz with
  | cons r rr =>
    cases rr
    cases r
    obtain ⟨t1, t2, a, b, xs, ys, ex, hqx, hqy, q⟩ := q1
    subst ex
    cases r1 with
    | cons r rr =>
      cases rr with
      | cons r' rr =>
        cases rr
        cases r
        cases r'
        obtain ⟨its, rv, px, la⟩ := sqx_at I2 hqx
        obtain ⟨its2, rv2, py, lb⟩ := sqx_at I2 hqy
        have fresh5 : ∀ c, c ∈ [s2.heap.objs.size + 4, s2.heap.objs.size + 2, s2.heap.objs.size + 3, s2.heap.objs.size, s2.heap.objs.size + 1] → FpOk X pins H2 c := fun c hcm => by
          have e' : c = s2.heap.objs.size + 4 ∨ c = s2.heap.objs.size + 2 ∨ c = s2.heap.objs.size + 3 ∨ c = s2.heap.objs.size ∨ c = s2.heap.objs.size + 1 := by simpa using hcm
          have hle : s2.heap.objs.size ≤ c := by
            rcases e' with z | z | z | z | z <;> omega
          exact I2.fpOk hle (I2.hok.fresh hle)
        refine zs_begins (begx t1 a its.toArray) (begx t2 b its2.toArray) px py fun h' hz hTI hTO h1 h2 hsz hk => pyIter_zs hz ?_
        have I3 : Inv X pins σ H2 { s2 with heap := h' } := I2.kept (t' := s2.toks) hk
        exact ⟨s2.heap.objs.size + 4, [s2.heap.objs.size + 4, s2.heap.objs.size + 2, s2.heap.objs.size + 3, s2.heap.objs.size, s2.heap.objs.size + 1], _, _, H2, rfl, I3,
          turn_zs (zip_sep2 (N := s2.heap.objs.size) (fp1 := [a]) (fp2 := [b]) (by simpa using la) (by simpa using lb)) (Nat.ne_of_lt la) (Nat.ne_of_lt (Nat.lt_succ_of_lt lb)), ⟨hz, hTI, ⟨_, _, hTO⟩, itx_new h1, itx_new h2⟩, fresh5, q⟩
/-! ### on data -/
def seqOf : D → Option (List D)
  | .lst ds => some ds
  | .tup ds => some ds
  | _ => none
section
variable {X : Cx} {kt : Bool} {K : PySem.W.Frag} {S H S1 H1 : Hp} {σ : L2.St} {E : List Cell} {v : V} {d : D} {ds : List D} {a b : Expr} {da : DA} {pos p p1 p2 tpos : Pos}
theorem kp_sq {A : Addr → Prop} (hx : Same S H) (kp : Kept kt K S H A v d) (e : seqOf d = some ds) : ∃ t a vs, v = .ref a ∧ sqx K t H a vs ∧ RpL kt K S vs ds := by
  cases d with
  | lst ds' =>
    cases e
    obtain ⟨p, vs, rfl, hp, r⟩ := kp.vw.lst hx
    exact ⟨true, p, vs, rfl, .of hp, r⟩
  | tup ds' =>
    cases e
    obtain ⟨p, vs, rfl, hp, r⟩ := kp.vw.tup hx
    exact ⟨false, p, vs, rfl, hp, r⟩
  | _ => cases e
theorem sqx_ref {t t' : Bool} {a : Addr} {xs ys : List V} : sqx K t H a xs → True := fun _ => trivial
def kdOf (t : Bool) (ds : List D) : D := cond t (.lst ds) (.tup ds)
theorem kd_of (e : seqOf d = some ds) : ∃ t, d = kdOf t ds := by
  cases d with
  | lst ds' => cases e; exact ⟨true, rfl⟩
  | tup ds' => cases e; exact ⟨false, rfl⟩
  | _ => cases e
theorem kd_at {A : Addr → Prop} {t : Bool} (hx : Same S H) (kp : Kept kt K S H A v (kdOf t ds)) : ∃ a vs, v = .ref a ∧ sqx K t H a vs ∧ RpL kt K S vs ds := by
  cases t with
  | true =>
    obtain ⟨p, vs, rfl, hp, r⟩ := Vw.lst hx kp.vw
    exact ⟨p, vs, rfl, .of hp, r⟩
  | false =>
    obtain ⟨p, vs, rfl, hp, r⟩ := Vw.tup hx kp.vw
    exact ⟨p, vs, rfl, hp, r⟩
def zipD (xs ys : List D) : List D := List.zipWith (fun x y => .tup [x, y]) xs ys
def iZsD (da : DA) : DI := fun E Q => da E fun ds E1 => ∃ a b xs ys, ds = [a, b] ∧ seqOf a = some xs ∧ seqOf b = some ys ∧ xs.length = ys.length ∧ Q (zipD xs ys) finId E1
theorem so_zs {A : Addr → Prop} {t1 t2 : Bool} {q r : Addr} {xs ys : List D} (h : Kept kt K S1 H1 A (.ref q) (kdOf t1 xs)) (h' : Kept kt K S1 H1 A (.ref r) (kdOf t2 ys)) (hl : xs.length = ys.length) : SrcOk kt K S1 H1 A (Itzs K t1 t2 q r) (zipD xs ys) := by
  have at1 : ∀ S H σ E, SI kt K S H σ E → Fr S1 H1 A S H (ownA σ E) → ∃ vs, sqx K t1 H q vs ∧ RpL kt K S vs xs := fun S H σ E I F => by
    obtain ⟨p, vs, e, h1, h2⟩ := kd_at I.ex (h.at F)
    cases e
    exact ⟨vs, h1, h2⟩
  have at2 : ∀ S H σ E, SI kt K S H σ E → Fr S1 H1 A S H (ownA σ E) → ∃ vs, sqx K t2 H r vs ∧ RpL kt K S vs ys := fun S H σ E I F => by
    obtain ⟨p, vs, e, h1, h2⟩ := kd_at I.ex (h'.at F)
    cases e
    exact ⟨vs, h1, h2⟩
  have zl : (zipD xs ys).length = xs.length := by unfold zipD; rw [List.length_zipWith, hl, Nat.min_self]
  refine ⟨fun S H σ E I F i hi => ?_, fun S H σ E I F => ?_, fun S H σ E I F i x H' hi hy => ?_⟩
  · rw [zl] at hi
    obtain ⟨vs, h1, h2⟩ := at1 S H σ E I F
    obtain ⟨us, h3, h4⟩ := at2 S H σ E I F
    obtain ⟨v, h5, _⟩ := h2.get (List.getElem?_eq_getElem hi)
    obtain ⟨u, h6, _⟩ := h4.get (List.getElem?_eq_getElem (hl ▸ hi))
    exact ⟨vs, us, v, u, h1, h3, by rw [h2.length, h4.length, hl], h5, h6⟩
  · obtain ⟨vs, h1, h2⟩ := at1 S H σ E I F
    obtain ⟨us, h3, h4⟩ := at2 S H σ E I F
    exact ⟨vs, us, h1, h3, by rw [zl, h2.length], by rw [zl, h4.length, hl]⟩
  · rw [zl] at hi
    obtain ⟨vs, h1, h2⟩ := at1 S H σ E I F
    obtain ⟨us, h3, h4⟩ := at2 S H σ E I F
    obtain ⟨T, x', y', rfl, hT, rfl, hv, hu⟩ := hy
    obtain ⟨v, h5, h7⟩ := h2.get (List.getElem?_eq_getElem hi)
    obtain ⟨u, h6, h8⟩ := h4.get (List.getElem?_eq_getElem (hl ▸ hi))
    have e1 := hv vs h1
    rw [h5] at e1; cases e1
    have e2 := hu us h3
    rw [h6] at e2; cases e2
    obtain ⟨S', e, r⟩ := ev_pair I hT h7 h8
    refine ⟨S', _, ?_, e, r⟩
    unfold zipD
    rw [List.getElem?_zipWith, List.getElem?_eq_getElem hi, List.getElem?_eq_getElem (hl ▸ hi)]
theorem si_zs {elts : List Expr} {kk : Nat} {jj} (hg : Gl X "zip") (hm : X.mg "zip" = none) (ha : SA X kt [a, b] da)
    (hs : starEach [a, b] X.env = (false, eval a X.env) :: starEach [b] X.env := by rfl) (hpl : (backTo pos (starEach [b] X.env)).any (·.1) = false := by rfl) :
    SI_ X kt (.Tuple elts kk tpos) (.Call (.Name "zip" p) [a, b] [⟨some (Str.ofString "strict"), .Constant (.bool true) jj p1, p2⟩] pos) (iZsD da) := by
  obtain ⟨t, q, l⟩ := ha.ex
  refine ⟨_, pi_zs hg hm q hs hpl, fun S H σ E Q R I h k => l S H σ E _ _ I h fun S1 H1 E1 vs ds e1 q1 h1 => ?_⟩
  obtain ⟨d1, d2, xs, ys, rfl, hx, hy, hl, h2⟩ := h1
  obtain ⟨t1, rfl⟩ := kd_of hx
  obtain ⟨t2, rfl⟩ := kd_of hy
  cases q1 with
  | cons r1 rr =>
    cases rr with
    | cons r2 rr =>
      cases rr
      obtain ⟨a1, vs1, rfl, g1, _⟩ := kd_at (A := ownA σ E1) e1.si.ex (.inl r1)
      obtain ⟨a2, vs2, rfl, g2, _⟩ := kd_at (A := ownA σ E1) e1.si.ex (.inl r2)
      exact ⟨t1, t2, a1, a2, vs1, vs2, rfl, g1, g2, k _ _ _ _ _ _ (.id I e1) (so_zs (.inl r1) (.inl r2) hl) h2⟩
end
end BD
set_option Elab.async false
set_option linter.all false
set_option maxRecDepth 100000
set_option maxHeartbeats 400000
/-! BD: a module's tuple; math.gcd; list, tuple of a range. -/
namespace BD
open PySem PySem.Spec PyProof.Rows L2
/-- a module's constant tuple -/
def GTup (K : PySem.W.Frag) (mg : Str → Option Value) (x : Str) (ds : List D) : Prop :=
  ∃ a o its n vs, mg x = some (.ref a) ∧ K.lookup a = some o ∧ o.cls = .type "tuple" ∧ o.data = .seq its n ∧ its.size ≤ sizeLine ∧ Vals vs its.toList ∧ ∀ S : Hp, RpL true K S vs ds
section
variable {X : Cx} {kt : Bool} {K : PySem.W.Frag} {x : Str} {ds : List D} {a b e : Expr} {es : List Expr} {da db : DE} {dr : DR} {pos p p2 : Pos} {S H : Hp} {mg : Str → Option Value}
theorem se_globT (hg : Gl X x) (g : GTup X.K X.mg x ds) (hd : (x == ("__debug__" : Str)) = false := by decide) : SE X true (.Name x pos) (dC (.tup ds)) := by
  obtain ⟨a, o, its, n, vs, hm, hl, hc, hdt, hz, rv, rp⟩ := g
  exact ⟨_, pe_glob hg hm (v := .ref a) rfl hd, c_lk fun S => .tup (.inr ⟨rfl, .inr ⟨o, its, n, hl, hc, hdt, hz, rv⟩⟩) (rp S)⟩
theorem gtup_two {h : Heap} {ad : Addr} {od : Option Addr} {i j : Int} {t u : Tok} {n : Nat} {sl : Array (Option Value)} (X : K.In h) (G : h.Ns mainGlobals mg) (ha : PySem.W.nsIn K mainGlobals x = some (some (.ref ad)))
    (hl : K.lookup ad = some ⟨.type "tuple", od, .seq #[.int i t, .int j u] n, sl⟩) : GTup K mg x [.int i, .int j] :=
  ⟨ad, _, _, n, [.int i, .int j], PySem.W.mg_of X G ha, hl, rfl, rfl, by show 2 ≤ sizeLine; decide, .cons ⟨_, rfl⟩ (.cons ⟨_, rfl⟩ .nil), fun _ => .cons (.int _) (.cons (.int _) .nil)⟩
theorem cb_gcd : CallB X kt (.builtin "math.gcd") (d2 (dI fun i j => .int ((Nat.gcd i.natAbs j.natAbs : Nat) : Int))) := ⟨_, cr_gcd, cd_two fun S H v w d d' Q Q' e w1 w2 h o => by
  cases d with
  | int i => cases d' with
    | int j => cases w1.int; cases w2.int; exact ⟨i, j, rfl, o.val _ _ (.int _) h⟩
    | _ => exact (show False from h).elim
  | _ => exact (show False from h).elim⟩
/-- f(e, ..), f a built-in function that the module has imported -/
theorem se_callF {id : String} {rd : List D → (R → Prop) → Prop} (o : CallB X kt (.builtin id) rd) (hg : Gl X x) (hm : X.mg x = some (.builtin id)) (ha : SR X kt (e :: es) dr) (hdb : (x == ("__debug__" : Str)) = false := by decide)
    (he : starEach (e :: es) X.env = (false, eval e X.env) :: starEach es X.env := by rfl) (hpl : (backTo pos (starEach es X.env)).any (·.1) = false := by rfl) : SE X kt (.Call (.Name x p) (e :: es) [] pos) (dCall rd dr) := by
  obtain ⟨r, ho, hd⟩ := o.ex
  obtain ⟨t, q, l⟩ := ha.ex
  exact ⟨_, pe_callBfun ho hg hm q hdb he hpl, call_lk hd l⟩
/-! ### list(range(..)), tuple(range(..)) -/
theorem rpl_rgD {i j : Int} : RpL kt K S (rgV i j) (rangeD i (j - i).toNat) := by
  unfold rgV rangeD
  generalize List.range (j - i).toNat = l
  induction l with
  | nil => exact .nil
  | cons n r ih => exact .cons (.int _) ih
/-- what a range's bounds give -/
def LkRg (kt : Bool) (K : PySem.W.Frag) (t : L2.St → Hp → (Int → Int → Hp → Prop) → Prop) (d : List Cell → (Int → Int → List Cell → Prop) → Prop) : Prop := ∀ (S H : Hp) (σ : L2.St) (E : List Cell) (Q : Int → Int → List Cell → Prop) (Q' : Int → Int → Hp → Prop), SI kt K S H σ E → d E Q →
  (∀ S1 H1 E1 i j, Ev kt K S H σ E S1 H1 E1 → Q i j E1 → Q' i j H1) → t σ H Q'
structure SRg (X : Cx) (kt : Bool) (e : Expr) (d : List Cell → (Int → Int → List Cell → Prop) → Prop) : Prop where
  ex : ∃ t, PRg X e t ∧ LkRg kt X.K t d
def dRg1 (da : DE) : List Cell → (Int → Int → List Cell → Prop) → Prop := fun E Q => da E fun r E1 => vw E1 r fun d => match d with | .int n => Q 0 n E1 | _ => False
def dRg2 (da db : DE) : List Cell → (Int → Int → List Cell → Prop) → Prop := fun E Q => da E fun r E1 => vw E1 r fun d => match d with | .int i => db E1 (fun r2 E2 => vw E2 r2 fun d2 => match d2 with | .int j => Q i j E2 | _ => False) | _ => False
theorem rg_1 (hg : Gl X "range") (hm : X.mg "range" = none) (ha : SE X kt a da) (na : starEach [a] X.env = (false, eval a X.env) :: starEach [] X.env := by rfl) : SRg X kt (.Call (.Name "range" p) [a] [] pos) (dRg1 da) := by
  obtain ⟨t, q, l⟩ := ha.ex
  refine ⟨_, prg_1 hg hm q na, fun S H σ E Q Q' I h k => l S H σ E _ _ I h fun S1 H1 E1 v r e1 q1 n1 h1 => ?_⟩
  obtain ⟨d, w, h2⟩ := vw_ok e1.si q1 h1
  cases d with
  | int n => cases w.int; exact ⟨n, rfl, k _ _ _ _ _ e1 h2⟩
  | _ => exact (show False from h2).elim
theorem rg_2 (hg : Gl X "range") (hm : X.mg "range" = none) (ha : SE X kt a da) (hb : SE X kt b db) (na : starEach [a, b] X.env = (false, eval a X.env) :: starEach [b] X.env := by rfl)
    (nb : starEach [b] X.env = (false, eval b X.env) :: starEach [] X.env := by rfl) (hp : (backTo pos (starEach [b] X.env)).any (·.1) = false := by rfl) : SRg X kt (.Call (.Name "range" p) [a, b] [] pos) (dRg2 da db) := by
  obtain ⟨t, q, l⟩ := ha.ex
  obtain ⟨t2, q2, l2⟩ := hb.ex
  refine ⟨_, prg_2 hg hm q q2 na nb hp, fun S H σ E Q Q' I h k => l S H σ E _ _ I h fun S1 H1 E1 v r e1 q1 n1 h1 => ?_⟩
  obtain ⟨d, w, h2⟩ := vw_ok e1.si q1 h1
  cases d with
  | int i =>
    cases w.int
    refine l2 S1 H1 σ E1 _ _ e1.si h2 fun S2 H2 E2 v2 r2 e2 q3 n2 h3 => ?_
    obtain ⟨d2, w2, h4⟩ := vw_ok e2.si q3 h3
    cases d2 with
    | int j => cases w2.int; exact ⟨i, j, rfl, rfl, k _ _ _ _ _ (e1.trans e2) h4⟩
    | _ => exact (show False from h4).elim
  | _ => exact (show False from h2).elim
theorem se_listRg {dg : List Cell → (Int → Int → List Cell → Prop) → Prop} (hc : X.calm = true) (hg : Gl X "list") (hm : X.mg "list" = none) (he : SRg X kt e dg) (na : starEach [e] X.env = (false, eval e X.env) :: starEach [] X.env := by rfl) :
    SE X kt (.Call (.Name "list" p) [e] [] pos) (fun E Q => dg E fun i j E1 => RgOk i j ∧ Q (.fr (.lst (rangeD i (j - i).toNat))) E1) := by
  obtain ⟨t, q, l⟩ := he.ex
  exact ⟨_, pe_listRg hc hg hm q na, fun S H σ E Q Q' I h k => l S H σ E _ _ I h fun S1 H1 E1 i j e1 h1 => ⟨h1.1, fun z hz => (outs_of e1 k).lst hz rpl_rgD h1.2⟩⟩
theorem se_tupRg {dg : List Cell → (Int → Int → List Cell → Prop) → Prop} (hc : X.calm = true) (hg : Gl X "tuple") (hm : X.mg "tuple" = none) (he : SRg X kt e dg) (na : starEach [e] X.env = (false, eval e X.env) :: starEach [] X.env := by rfl) :
    SE X kt (.Call (.Name "tuple" p) [e] [] pos) (fun E Q => dg E fun i j E1 => RgOk i j ∧ Q (.val (.tup (rangeD i (j - i).toNat))) E1) := by
  obtain ⟨t, q, l⟩ := he.ex
  exact ⟨_, pe_tupRg hc hg hm q na, fun S H σ E Q Q' I h k => l S H σ E _ _ I h fun S1 H1 E1 i j e1 h1 => ⟨h1.1, fun z hz => (outs_of e1 k).tup _ _ _ hz rpl_rgD h1.2⟩⟩
end
end BD
set_option Elab.async false
set_option linter.all false
set_option maxRecDepth 100000
set_option maxHeartbeats 4000000
/-! BD: sorted, min, max of the common kinds. -/
namespace BD
open PySem PySem.Spec PyProof.Rows L2
/-! ### the common kinds -/
theorem alike_sym_int {ns : List Int} : PySem.W.AllAlike ((ns.map D.int).map py) := by
  rw [List.map_map]
  exact PySem.W.AllAlike.of fun b b' => by simp [py, PySem.W.alike]
theorem alike_sym_str {ns : List Str} : PySem.W.AllAlike ((ns.map D.str).map py) := by
  rw [List.map_map]
  exact PySem.W.AllAlike.of fun b b' => by simp [py, PySem.W.alike]
def intsD (ns : List Int) : List D := ns.map D.int
theorem ints_ok (n : Nat) (ns : List Int) : (intsD ns).all (okd n) = true := by
  rw [List.all_eq_true]
  intro d hd
  obtain ⟨i, _, rfl⟩ := List.mem_map.mp hd
  cases n <;> rfl
theorem pys_ints (ns : List Int) : pys (intsD ns) = ns.map PyData.int := by
  rw [pys_map, intsD, List.map_map]
  rfl
theorem mok_ints {ns : List Int} : MOk (intsD ns) := ⟨ints_ok _ _, alike_sym_int, fun d hd => by obtain ⟨i, _, rfl⟩ := List.mem_map.mp hd; exact fun z => nomatch z⟩
theorem sok_ints {ns : List Int} (h : ns.length ≤ sizeLine) : SOk (intsD ns) := ⟨ints_ok _ _, alike_sym_int, .inr fun d hd => (by
  obtain ⟨x, hx, rfl⟩ := List.mem_map.mp hd
  obtain ⟨i, _, rfl⟩ := List.mem_map.mp hx
  exact ⟨(fun z => nomatch z), fun xs z => nomatch z⟩), by unfold intsD; rw [List.length_map]; exact h⟩
/-- rows of intsD: lists, tuples -/
def lstI (ns : List Int) : D := .lst (intsD ns)
def tupI (ns : List Int) : D := .tup (intsD ns)
theorem lstI_ok (n : Nat) (ns : List Int) : okd (n + 1) (lstI ns) = true := ints_ok n ns
theorem tupI_ok (n : Nat) (ns : List Int) : okd (n + 1) (tupI ns) = true := ints_ok n ns
theorem all_of {α : Type} {f : α → D} {p : D → Bool} (h : ∀ a, p (f a) = true) (l : List α) : (l.map f).all p = true := by
  rw [List.all_eq_true]
  intro d hd
  obtain ⟨a, _, rfl⟩ := List.mem_map.mp hd
  exact h a
theorem py_lstI (ns : List Int) : py (lstI ns) = .list (ns.map PyData.int) := by
  unfold lstI
  simp only [py, pys_ints]
theorem py_tupI (ns : List Int) : py (tupI ns) = .tuple (ns.map PyData.int) := by
  unfold tupI
  simp only [py, pys_ints]
theorem al_lstI {rs : List (List Int)} : PySem.W.AllAlike ((rs.map lstI).map py) := by
  rw [List.map_map]
  refine PySem.W.AllAlike.of fun a b => ?_
  show PySem.W.alike (py (lstI a)) (py (lstI b)) = true
  rw [py_lstI, py_lstI]
  simp only [PySem.W.alike, PySem.W.alike_ints]
theorem al_tupI {rs : List (List Int)} : PySem.W.AllAlike ((rs.map tupI).map py) := by
  rw [List.map_map]
  refine PySem.W.AllAlike.of fun a b => ?_
  show PySem.W.alike (py (tupI a)) (py (tupI b)) = true
  rw [py_tupI, py_tupI]
  simp only [PySem.W.alike, PySem.W.alike_ints]
theorem sok_lstI {rs : List (List Int)} (h : rs.length ≤ sizeLine) : SOk (rs.map lstI) := ⟨all_of (fun a => lstI_ok 49 a) _, al_lstI, .inr fun d hd => (by
  obtain ⟨x, hx, rfl⟩ := List.mem_map.mp hd
  obtain ⟨i, _, rfl⟩ := List.mem_map.mp hx
  rw [py_lstI]
  exact ⟨(fun z => nomatch z), fun xs z => nomatch z⟩), by rw [List.length_map]; exact h⟩
theorem sok_tupI {rs : List (List Int)} (h : rs.length ≤ sizeLine) (hn : ∀ r ∈ rs, r ≠ []) : SOk (rs.map tupI) := ⟨all_of (fun a => tupI_ok 49 a) _, al_tupI, .inl fun d hd => (by
  obtain ⟨x, hx, rfl⟩ := List.mem_map.mp hd
  obtain ⟨i, hi, rfl⟩ := List.mem_map.mp hx
  rw [py_tupI]
  cases e : i with
  | nil => exact absurd e (hn i hi)
  | cons y t => exact ⟨_, _, rfl⟩), by rw [List.length_map]; exact h⟩
theorem mok_lstI {rs : List (List Int)} : MOk (rs.map lstI) := ⟨all_of (fun a => lstI_ok 49 a) _, al_lstI, fun d hd => by obtain ⟨i, _, rfl⟩ := List.mem_map.mp hd; exact fun z => nomatch z⟩
theorem sok_strs {rs : List Str} (h : rs.length ≤ sizeLine) (hs : ∀ r ∈ rs, PyData.strOk r = true) : SOk (rs.map D.str) := ⟨by
  rw [List.all_eq_true]
  intro d hd
  obtain ⟨a, ha, rfl⟩ := List.mem_map.mp hd
  exact hs a ha, alike_sym_str, .inr fun d hd => (by
  obtain ⟨x, hx, rfl⟩ := List.mem_map.mp hd
  obtain ⟨i, _, rfl⟩ := List.mem_map.mp hx
  exact ⟨(fun z => nomatch z), fun xs z => nomatch z⟩), by rw [List.length_map]; exact h⟩
theorem mok_strs {rs : List Str} (hs : ∀ r ∈ rs, PyData.strOk r = true) : MOk (rs.map D.str) := ⟨by
  rw [List.all_eq_true]
  intro d hd
  obtain ⟨a, ha, rfl⟩ := List.mem_map.mp hd
  exact hs a ha, alike_sym_str, fun d hd => by obtain ⟨i, _, rfl⟩ := List.mem_map.mp hd; exact fun z => nomatch z⟩
/-! the sorted lists themselves -/
theorem sort_lstI (rs : List (List Int)) : sortD (rs.map lstI) = (rs.mergeSort fun a b => decide (a ≤ b)).map lstI := by
  unfold sortD
  rw [List.map_mergeSort (s := leD)]
  intro a _ b _
  have h := congrFun (congrFun (PySem.W.dataLe_rows (fun r : List Int => r)) a) b
  rw [← h]
  show _ = PySem.W.dataLe false py (lstI a) (lstI b)
  rw [PySem.W.dataLe_eq, PySem.W.dataLe_eq]
  simp only [py_lstI]
theorem sort_tupI (rs : List (List Int)) : sortD (rs.map tupI) = (rs.mergeSort fun a b => decide (a ≤ b)).map tupI := by
  unfold sortD
  rw [List.map_mergeSort (s := leD)]
  intro a _ b _
  have h := congrFun (congrFun (PySem.W.dataLe_rows (fun r : List Int => r)) a) b
  rw [← h]
  show (!PySem.W.dataLt (.list (b.map PyData.int)) (.list (a.map PyData.int))) = (!PySem.W.dataLt (py (tupI b)) (py (tupI a)))
  rw [py_tupI, py_tupI, PySem.W.dataLt_tuple, PySem.W.dataLt_list]
theorem sort_ints (ns : List Int) : sortD (intsD ns) = intsD (ns.mergeSort fun a b => decide (a ≤ b)) := by
  unfold sortD intsD
  rw [List.map_mergeSort (s := leD)]
  intro a _ b _
  exact (congrFun (congrFun (PySem.W.dataLe_int (fun r : Int => r)) a) b).symm
theorem sort_strs (ns : List Str) : sortD (ns.map D.str) = (ns.mergeSort fun a b => decide (a.cps.toList ≤ b.cps.toList)).map D.str := by
  unfold sortD
  rw [List.map_mergeSort (s := leD)]
  intro a _ b _
  exact (congrFun (congrFun (PySem.W.dataLe_str (fun r : Str => r)) a) b).symm
end BD
set_option Elab.async false
set_option linter.all false
set_option maxRecDepth 100000
set_option maxHeartbeats 4000000
/-! BD: sorted(set(..)) of texts. -/
namespace BD
open PySem PySem.Spec PyProof.Rows L2 PySem.Froz
section
variable {P : Program} {w : World} {A : Around} {E : Value → Shared → Prop} {s : Shared}
/-- a payload of texts that can be walked -/
structure TxW (P : Program) (w : World) (D : SD) (l : List Str) : Prop where
  ok : TxOk P w D l
  ris : Ris D.2.2.place.toList
  led : w.params.followText "set-order" = true ∨ D.2.2.led = true
theorem tail_w {ep : Nat} {es1 : Array (Int × Value)} {t2 : SetTable} {b : Bool} (h1 : Ris t2.place.toList) (h2 : w.params.followText "set-order" = true ∨ t2.led = true) : Ris (tailTx ep es1 t2 b).2.2.place.toList ∧ (w.params.followText "set-order" = true ∨ (tailTx ep es1 t2 b).2.2.led = true) := by
  unfold tailTx
  by_cases c : (!b && t2.tooFull) = true
  · rw [if_pos c]
    exact ⟨relayAll_ris t2 es1 _, h2.imp id fun z => by rw [relayAll_led]; exact z⟩
  · rw [if_neg c]; exact ⟨h1, h2⟩
theorem add_w {D : SD} {l : List Str} {k : Str} (u : Tok) (F : TxW P w D l) : TxW P w (addTx (hashStr w k) (.str k u) D) (k :: l) := by
  have h1 := layNew_ris D.2.2 D.1 (hashStr w k) (.str k u) F.ris
  have h2 := layNew_led D.2.2 D.1 (hashStr w k) (.str k u)
  have h3 : w.params.followText "set-order" = true ∨ (layNew D.2.2 D.1 (hashStr w k) (.str k u)).2.1.led = true := F.led.imp id fun z => by rw [h2]; exact z
  have h4 := tail_w (w := w) (ep := D.2.1) (es1 := (layNew D.2.2 D.1 (hashStr w k) (.str k u)).1) (t2 := if (layNew D.2.2 D.1 (hashStr w k) (.str k u)).2.1.plain = true then { (layNew D.2.2 D.1 (hashStr w k) (.str k u)).2.1 with plain := false } else (layNew D.2.2 D.1 (hashStr w k) (.str k u)).2.1) (b := (layNew D.2.2 D.1 (hashStr w k) (.str k u)).2.2.1) (by split <;> exact h1) (by split <;> exact h3)
  exact ⟨add_ok u F.ok, h4.1, h4.2⟩
/-- a text that is there already -/
theorem there_x {a : Addr} {D : SD} {l : List Str} {k : Str} {u : Tok} {Q : Bool → Shared → Prop} (ho : s.heap.get? a = some (sObj "set" D)) (F : TxOk P w D l) (hk : k ∈ l) (hb : l.length < scanBound)
    (h : Q false s) : wpAny (model P w) A (setAddHashed a (.str k u) (hashStr w k)) Q E s := by
  obtain ⟨es, ep, t⟩ := D
  have hf : t.fits es.size = true := F.fit
  have hel : ElemsOf (strKind P w) es.toList := F.el
  have hz : es.size = l.length := F.sz
  have hy : (strKind P w).is k (.str k u) = true := is_str k u
  have hd : (sObj "set" (es, ep, t)).data = .set es ep t := rfl
  unfold setAddHashed setAddHashedIn
  refine wpAny_holding (wpAny_bind (wpAny_setState_of ho hd hf ?_))
  dsimp only
  rw [byScan_of (x := .str k u) rfl (by omega) hel]
  simp only [↓reduceIte]
  unfold setAddByScan
  refine wpAny_bind ?_
  refine wpAny_bind (wpAny_rule ?_)
  refine wpAny_bind (wpAny_setScan_of (knd := strKind P w) (k := k) hy ho hd hf hel ?_)
  cases hr : List.findIdx? (fun e => (strKind P w).is k e.2) es.toList with
  | some j => exact wpAny_pure (wpAny_pure h)
  | none =>
    obtain ⟨e, he, q⟩ := (F.mem k).mp hk
    have := List.findIdx?_eq_none_iff.mp hr e he
    rw [q] at this
    cases this
/-- what the set has of the first i texts -/
structure GotT (P : Program) (w : World) (h : Heap) (S : Addr) (xs : List Str) (i : Nat) (D : SD) (l : List Str) : Prop where
  at_ : h.get? S = some (sObj "set" D)
  w_ : TxW P w D l
  mem : ∀ k, k ∈ l ↔ k ∈ xs.take i
  nd : l.Nodup
  len : l.length ≤ i
theorem take_more {α : Type} {l : List α} {i : Nat} {x y : α} (h : l[i]? = some x) : y ∈ l.take (i + 1) ↔ y ∈ l.take i ∨ y = x := by
  rw [List.take_add_one, h]
  simp
theorem update_txts {I S : Addr} {fp wr : List Addr} {G : Array GenState → Array GenState → Prop} {n : Nat} {Pv : Nat → Value → Prop} {St : Nat → Shared → Prop} {R : Result → Shared → Prop}
    (W : WalksS P w A.in1 I fp wr G n Pv St) (hSf : S ∉ fp) (xs : List Str) (hn : xs.length = n) (hb : n < 4000) (hval : ∀ i v, Pv i v → ∃ t x, xs[i]? = some x ∧ v = .str x t) :
    ∀ (k i : Nat) (s : Shared), n - i = k → i ≤ n → St i s → (∃ D l, GotT P w s.heap S xs i D l) →
      (∀ s' D l, Moved (S :: wr) G s s' → GotT P w s'.heap S xs n D l → R (.ok (.ret .none)) s') →
      codeAny (model P w) A (.builtin "set.update.loop" ⟨[.ref S, .ref I], []⟩) R s := by
  have nw : S ∉ wr := fun h => hSf (W.sub _ h)
  have up : ∀ b ∈ wr, b ∈ S :: wr := fun b hb => List.mem_cons_of_mem _ hb
  intro k
  induction k with
  | zero =>
    intro i s hk hi hst ⟨D, l, g⟩ hR
    have e : i = n := by omega
    subst e
    refine codeAny_builtin PyProof.Rows.F.entry_set_update_loop ?_
    rw [Around.under_plainId PyProof.Rows.F.plain_set_update_loop _]
    refine wpAny_bind (W.done s _ _ hst fun s' hm => ?_)
    show wpAny _ A.in1 (ret Value.none) _ _ s'
    exact wpAny_pure (hR s' D l (hm.mono up) ⟨hm.heap S _ nw g.at_, g.w_, g.mem, g.nd, g.len⟩)
  | succ k ih =>
    intro i s hk hi hst ⟨D, l, g⟩ hR
    have hlt : i < n := by omega
    refine codeAny_builtin PyProof.Rows.F.entry_set_update_loop ?_
    rw [Around.under_plainId PyProof.Rows.F.plain_set_update_loop _]
    refine wpAny_bind (W.item i s _ _ hlt hst fun v s' hP hst' hm => ?_)
    obtain ⟨t, x, hx, rfl⟩ := hval i v hP
    have g' : s'.heap.get? S = some (sObj "set" D) := hm.heap S _ nw g.at_
    have hlen := g.len
    show wpAny _ A.in1 (holding [Value.str x t] (setAdd S (.str x t)) >>= _) _ _ s'
    refine wpAny_bind (wpAny_holding ?_)
    unfold setAdd
    refine wpAny_holding ?_
    refine wpAny_bind ((strKind P w).pyHash (k := x) (strKind_is _ _ _ _) ?_)
    have go : ∀ (b : Bool) (s1 : Shared) (D' : SD) (l' : List Str), s1.gens = s'.gens → s1.os = s'.os → s1.drawn = s'.drawn → s'.toks ≤ s1.toks → GotT P w s1.heap S xs (i + 1) D' l' → (∀ b, b ≠ S → s1.heap.get? b = s'.heap.get? b) → (s1 = { s' with heap := s1.heap, toks := s1.toks }) →
        codeAny (model P w) A (.builtin "set.update.loop" ⟨[.ref S, .ref I], []⟩) R s1 := fun b s1 D' l' e1 e2 e3 e4 g1 sb e5 => by
      rw [e5]
      refine ih (i + 1) _ (by omega) hlt (W.frame _ s' _ _ hst' e4 fun b hb o e => ?_) ⟨D', l', g1⟩ fun s2 D2 l2 hm2 g2 => ?_
      · rw [sb b (fun z => hSf (z ▸ hb))]; exact e
      · refine hR s2 D2 l2 (Moved.trans W.gtrans ((hm.mono up).then_heap e4 fun b o hb e => ?_) hm2) g2
        rw [sb b (fun z => hb (by rw [z]; exact List.mem_cons_self))]; exact e
    by_cases c : x ∈ l
    · refine there_x (s := { s' with toks := s'.toks + 1 }) g' g.w_.ok c (by unfold scanBound; omega) ?_
      refine wpAny_pure ⟨plainId_quiet PyProof.Rows.F.plain_set_update_loop _, go false _ D l rfl rfl rfl (Nat.le_succ _) ⟨g', g.w_, fun k => ?_, g.nd, by omega⟩ (fun _ _ => rfl) rfl⟩
      rw [take_more hx, ← g.mem k]
      exact ⟨.inl, fun z => z.elim id fun e => e ▸ c⟩
    · refine add_x (s := { s' with toks := s'.toks + 1 }) g' g.w_.ok c (by unfold scanBound; omega) ?_
      refine wpAny_pure ⟨plainId_quiet PyProof.Rows.F.plain_set_update_loop _, go true _ (addTx (hashStr w x) (.str x t) D) (x :: l) rfl rfl rfl (Nat.le_succ _) ⟨get_upd _ g' rfl, add_w t g.w_, fun k => ?_, List.nodup_cons.mpr ⟨c, g.nd⟩, by rw [List.length_cons]; omega⟩ (fun b hb => ?_) rfl⟩
      · rw [take_more hx, ← g.mem k, List.mem_cons]; exact Or.comm
      · exact Heap.get?_update_other _ _ (Ne.symm hb)
/-- what set() makes -/
abbrev fs0 (w : World) : Obj := { cls := .type "set", dict := none, data := .set #[] 0 (.fresh 0 0 (!w.params.followText "set-order")) }
theorem gotT_zero {h : Heap} {S : Addr} {xs : List Str} (e : h.get? S = some (fs0 w)) : GotT P w h S xs 0 (#[], 0, .fresh 0 0 (!w.params.followText "set-order")) [] where
  at_ := e
  w_ := ⟨TxOk.nil rfl, List.Pairwise.nil, by
    show _ ∨ (!w.params.followText "set-order") = true
    cases w.params.followText "set-order" <;> first | exact .inl rfl | exact .inr rfl⟩
  mem := fun k => by simp
  nd := List.nodup_nil
  len := Nat.le_refl _
theorem none_past {h : Heap} {b : Addr} (hb : h.objs.size ≤ b) : h.get? b = none := by
  cases q : h.get? b with
  | none => rfl
  | some o => exact absurd (Heap.lt_size q) (Nat.not_lt_of_le hb)
/-- set(xs), xs a list of texts -/
theorem set_txts {l : Addr} {items : Array Value} {xs : List Str} {Q : Value → Shared → Prop} (hh : A.handled = none) (hl : s.heap.IsList l items) (hi : StrsAre items.toList xs) (hb : xs.length < 4000)
    (h : ∀ (h' : Heap) (tk : Nat) D l', GotT P w h' s.heap.objs.size xs xs.length D l' → (∀ b o, s.heap.get? b = some o → h'.get? b = some o) → Q (.ref s.heap.objs.size) { s with heap := h', toks := tk }) :
    wpAny (model P w) A (call (.type "set") [.ref l]) Q E s := by
  have hz : items.size = xs.length := by rw [← StrsAre.len_eq hi, Array.length_toList]
  obtain ⟨c, tl, hmro⟩ := F.called_set.mro
  have hmade := F.called_set.made
  have hsub := F.called_set.sub
  refine wpAny_call (codeAny_of_tree ?_)
  show wpAny _ _ (callAny (.type "set") _) _ _ _
  refine wpAny_pure ⟨Code.quiet_builtin _ (by decide +kernel), codeAny_builtin F.entry_type_call ?_⟩
  rw [Around.under_plain (weight_type_call_type "set" [.ref l] []) rfl]
  have h1 := F.called_set.notType
  have h2 := F.called_set.canCreate
  have hct := F.typeCall_set_1 (.ref l)
  repeat (any_goals (first | assumption | wp_step))
  refine codeAny_mono (code_set_led1 (.ref l) (E := E) (Q₁ := fun obj s₁ => obj = .ref s.heap.objs.size ∧ s₁ = { s with heap := s.heap.push (fs0 w) }) ⟨rfl, rfl⟩) fun r s₁ hr => ?_
  cases r with
  | error e => exact hr
  | ok fl =>
    cases fl with
    | ret obj =>
      obtain ⟨rfl, rfl⟩ := hr
      have hS : (s.heap.push (fs0 w)).get? s.heap.objs.size = some (fs0 w) := Heap.get?_push_size _ rfl
      have hT : Shared.TypeIs { s with heap := s.heap.push (fs0 w) } (.ref s.heap.objs.size) "set" := ⟨_, hS, rfl⟩
      have hli := F.called_set.init.lookup
      have hbi := F.called_set.init.bind (.ref s.heap.objs.size)
      repeat (any_goals (first | assumption | wp_step))
      refine codeAny_mono (codeAny_call_builtin (R := wants (fun r s₂ => r = .none ∧ ∃ h' tk D l', s₂ = { s with heap := h', toks := tk } ∧ GotT P w h' s.heap.objs.size xs xs.length D l' ∧
          (∀ b o, s.heap.get? b = some o → h'.get? b = some o)) E) F.called_set.init.plain F.entry_set_init (check_set_init_1 hT ?_)) fun r₂ s₂ hr₂ => ?_
      · obtain ⟨ol, hol, hcl, nl, hdl⟩ := hl
        obtain ⟨ocls, odict, odata, oslots⟩ := ol
        simp only at hcl hdl
        subst hcl; subst hdl
        have hol' : (s.heap.push (fs0 w)).get? l = some { cls := .type "list", dict := odict, data := .seq items nl, slots := oslots } := Heap.get?_push_of_some _ hol
        have hsls := F.sub_list_set
        have hslf := F.sub_list_frozenset
        have hne : (Value.type "list" == Value.type "dict") = false := by decide
        have hl1 : (s.heap.push (fs0 w)).IsList l items := ⟨_, hol', rfl, nl, rfl⟩
        unfold Builtin.«set.__init__» noKeywords Builtin.Frozenset.updateFrom
        generalize hPI : pyIter = PI
        wp_walk
        subst hPI
        refine wpAny_pyIter_list hl1 ?_
        refine wpAny_bind (wpAny_runValue ?_)
        have hlS : l < s.heap.objs.size := Heap.lt_size hol
        have h3 : A.in1.in1.in1.handled = none := by simp [hh]
        have hneI : l ≠ (s.heap.push (fs0 w)).objs.size := by rw [Heap.size_push]; exact Nat.ne_of_lt (Nat.lt_succ_of_lt hlS)
        have hSf : s.heap.objs.size ∉ [(s.heap.push (fs0 w)).objs.size, l] := by
          rw [Heap.size_push]
          intro z
          rcases List.mem_cons.mp z with z | z
          · exact absurd z (Nat.ne_of_lt (Nat.lt_succ_self _))
          · exact absurd (List.mem_singleton.mp z) (Nat.ne_of_gt hlS)
        have hval : ∀ (i : Nat) (v : Value), items[i]? = some v → ∃ t x, xs[i]? = some x ∧ v = .str x t := fun i v hv => by
          obtain ⟨t, e⟩ := SS.strs_at hi i v (by rw [Array.getElem?_toList]; exact hv)
          have hlt : i < xs.length := by rw [← hz]; exact (Array.getElem?_eq_some_iff.mp hv).1
          refine ⟨t, xs.getD i Str.empty, ?_, e⟩
          rw [List.getD_eq_getElem?_getD, List.getElem?_eq_getElem hlt]; rfl
        refine update_txts ((Walks.list h3 _ l hneI items).toS) (S := s.heap.objs.size) hSf xs hz.symm (by omega) hval (items.size - 0) 0 _ (by omega) (Nat.zero_le _)
          ⟨⟨_, Heap.get?_push_size _ rfl, rfl, rfl⟩, (hl1.push _)⟩ ⟨_, _, gotT_zero (Heap.get?_push_of_some _ hS)⟩ fun s' D l' hm g => ?_
        obtain ⟨h', g2, d', tk', os'⟩ := s'
        have eg : g2 = s.gens := hm.gens
        have ed : d' = s.drawn := hm.drawn
        have eo : os' = s.os := hm.os
        subst eg; subst ed; subst eo
        refine wpAny_pure ?_
        show wpAny _ _ (ret Value.none) _ _ _
        rw [hz] at g
        refine wpAny_pure ⟨rfl, h', tk', D, l', rfl, g, fun b o e => ?_⟩
        have hlt := Heap.lt_size e
        refine hm.heap b o (fun z => ?_) (Heap.get?_push_of_some _ (Heap.get?_push_of_some _ e))
        rw [Heap.size_push] at z
        rcases List.mem_cons.mp z with z | z
        · exact absurd z (Nat.ne_of_lt hlt)
        · exact absurd (List.mem_singleton.mp z) (Nat.ne_of_lt (Nat.lt_succ_of_lt hlt))
      · cases r₂ with
        | error e => exact hr₂
        | ok fl₂ =>
          cases fl₂ with
          | ret r =>
            obtain ⟨rfl, h', tk, D, l', rfl, g, hk'⟩ := hr₂
            repeat (any_goals (first | assumption | wp_step))
            exact h _ _ _ _ g hk'
          | _ => exact hr₂.elim
    | _ => exact hr.elim
/-- the text of a value -/
def txOf : Value → Str
  | .str k _ => k
  | _ => Str.empty
theorem perm_of_sub : ∀ (l ms : List Str), l.Nodup → (∀ k ∈ l, k ∈ ms) → ms.length ≤ l.length → ms.Perm l
  | [], ms, _, _, h => by rw [List.length_eq_zero_iff.mp (Nat.le_zero.mp h)]
  | x :: r, ms, hn, hs, h => by
    obtain ⟨h1, h2⟩ := List.nodup_cons.mp hn
    have hx := hs x List.mem_cons_self
    have hp := List.perm_cons_erase hx
    have hl : (ms.erase x).length ≤ r.length := by
      have := hp.length_eq
      rw [List.length_cons] at this h
      omega
    exact hp.trans ((perm_of_sub r (ms.erase x) h2 (fun k hk => (List.mem_erase_of_ne (fun z => h1 (by rw [← z]; exact hk))).mpr (hs k (List.mem_cons_of_mem _ hk))) hl).cons x)
theorem tx_each : ∀ (us : List Value), (∀ v ∈ us, ∃ t, v = .str (txOf v) t) → PySem.W.EachIs (fun v b => ∃ t, v = Value.str b t) us (us.map txOf)
  | [], _ => .nil
  | v :: us, h => .cons (h v List.mem_cons_self) (tx_each us fun u hu => h u (List.mem_cons_of_mem _ hu))
/-- sorted(set) -/
theorem sorted_txts {a : Addr} {D : SD} {l : List Str} {Q : Value → Shared → Prop} (ho : s.heap.get? a = some (sObj "set" D)) (F : TxW P w D l) (hh : A.handled = none) (hn : l.Nodup) (hb : l.length < 4000) (hu : A.units + 65 < cLine)
    (hQ : ∀ s' p (ms : List Str) (out : List Value) (c : Nat), (∀ b o, s.heap.get? b = some o → s'.heap.get? b = some o) → s'.gens = s.gens → s'.os = s.os → s.heap.objs.size ≤ p →
      s'.heap.get? p = some (seqObj "list" out.toArray c) → ms.Perm l → PySem.W.EachIs (fun v b => ∃ t, v = Value.str b t) out (ms.mergeSort (PySem.W.dataLe false PyData.str)) → Q (.ref p) s') :
    wpAny (model P w) A (call (.builtin "sorted") [.ref a]) Q E s := by
  obtain ⟨es, ep, t⟩ := D
  have hz : es.size = l.length := F.ok.sz
  refine Calls.call_function_entry kind_sorted plain_sorted entry_sorted (args_sorted1 _) ?_
  unfold Builtin.«sorted»
  refine wpAny_bind (m := checkCount "sorted" 1 1 _) (wpAny_pure ?_)
  refine wpAny_bind (collect_set (A := A.in1) hh ⟨_, ho, rfl, rfl⟩ F.ok.fit (by show es.size < scanBound; rw [hz]; unfold scanBound; omega) F.ris F.led fun s1 vs k1 hs1 g1 o1 pm => ?_)
  have pm' : vs.Perm (es.toList.map (·.2)) := pm
  have hvl : vs.length = l.length := by rw [pm'.length_eq, List.length_map, Array.length_toList]; exact hz
  have hst : ∀ v ∈ vs, ∃ t, v = .str (txOf v) t := fun v hv => by
    obtain ⟨e, he, q⟩ := List.mem_map.mp (pm'.mem_iff.mp hv)
    obtain ⟨⟨k, hk, _⟩, _⟩ := F.ok.el e he
    rw [← q]
    have hk' : Value.isStrOf k e.2 = true := hk
    cases h2 : e.2 with
    | str x t => exact ⟨t, rfl⟩
    | _ => rw [h2] at hk'; simp [Value.isStrOf] at hk'
  have hml : ∀ k ∈ l, k ∈ vs.map txOf := fun k hk => by
    obtain ⟨e, he, q⟩ := (F.ok.mem k).mp hk
    have q' : Value.isStrOf k e.2 = true := q
    refine List.mem_map.mpr ⟨e.2, pm'.mem_iff.mpr (List.mem_map.mpr ⟨e, he, rfl⟩), ?_⟩
    cases h2 : e.2 with
    | str x t =>
      rw [h2] at q'
      simp [Value.isStrOf] at q'
      exact q'
    | _ => rw [h2] at q'; simp [Value.isStrOf] at q'
  have mp : (vs.map txOf).Perm l := perm_of_sub l _ hn hml (by rw [List.length_map, hvl]; exact Nat.le_refl _)
  have ea := tx_each vs hst
  refine wpAny_bind (wpAny_newList ?_ (by rw [hvl, sizeLine_eq]; omega))
  have hoL : (s1.heap.push (seqObj "list" vs.toArray 0)).get? s1.heap.objs.size = some (seqObj "list" vs.toArray 0) := Heap.get?_push_size _ rfl
  have er : PySem.W.EachIs (fun v b => ∃ as, Reads (s1.heap.push (seqObj "list" vs.toArray 0)) v (PyData.str b) as ∧ s1.heap.objs.size ∉ as) vs (vs.map txOf) := ea.mono fun v b ⟨t, e⟩ => ⟨[], by rw [e]; exact .str .., fun z => nomatch z⟩
  refine wpAny_bind (wpAny_holding (PySem.W.list_sort_data (vs := vs) (s := { s1 with heap := s1.heap.push (seqObj "list" vs.toArray 0) }) hoL ea er ?_ ?_ (by rw [List.length_map, hvl, sizeLine_eq]; omega) (fun b hb => ?_) fun out hout eo => ?_))
  · exact PySem.W.AllAlike.of fun b b' => by simp [PySem.W.alike]
  · refine .inr fun d hd => ?_
    obtain ⟨x, _, rfl⟩ := List.mem_map.mp hd
    exact ⟨(fun z => nomatch z), fun xs z => nomatch z⟩
  · show A.in1.units + 1 + (PyData.str b).depth < cLine
    have h0 : (PyData.str b).depth ≤ 1 := by simp [PyData.depth]
    have h1 : A.in1.units ≤ A.units + 1 := Nat.le_refl _
    omega
  · obtain ⟨c, hc⟩ := sortedHeap_at (vs := vs) (out := out.toArray) hoL
    refine wpAny_pure ⟨_, rfl, hQ _ s1.heap.objs.size (vs.map txOf) out c (fun b u e => ?_) g1 o1 hs1 hc mp eo⟩
    have q := k1 b u e
    have hlt := Heap.lt_size q
    show (sortedHeap (s1.heap.push (seqObj "list" vs.toArray 0)) s1.heap.objs.size vs out.toArray).get? b = some u
    rw [sortedHeap_old (Nat.ne_of_lt hlt) (by rw [size_push']; exact Nat.lt_succ_of_lt hlt)]
    exact Heap.get?_push_of_some _ q
end
section
variable {X : Cx}
theorem each_strs : ∀ {us : List Value} {ms : List Str}, PySem.W.EachIs (fun v b => ∃ t, v = Value.str b t) us ms → Vals (ms.map V.str) us
  | _, _, .nil => .nil
  | _, _, .cons r t => .cons r (each_strs t)
theorem strsAre_vals : ∀ {ys : List Str} {us : List Value}, Vals (ys.map V.str) us → StrsAre us ys
  | [], _, .nil => .nil
  | y :: ys, _, .cons r t => by
    obtain ⟨k, rfl⟩ := r
    exact .cons y k (strsAre_vals t)
/-- sorted(set(xs)), xs a list of texts -/
def tSortSet (K : PySem.W.Frag) (ta : TE) : TE := fun σ H Q => ta σ H fun x H1 => ∃ l, ∃ xs : List Str, x = .ref l ∧ SqL K H1 l (xs.map V.str) ∧ xs.length < 4000 ∧
  ∀ (ms : List Str) (p : Addr), ms.Nodup → (∀ k, k ∈ ms ↔ k ∈ xs) → H1 p = none → Q (.ref p) (upd H1 p (.lst ((ms.mergeSort (PySem.W.dataLe false PyData.str)).map V.str)))
theorem pe_sortSet {a : Expr} {ta : TE} {p p2 q pos : Pos} (hc : X.calm = true) (hu : X.A.units + 65 < cLine) (hg : Gl X "sorted") (hm : X.mg "sorted" = none) (hg2 : Gl X "set") (hm2 : X.mg "set" = none) (ha : PE X a ta)
    (na : starEach [a] X.env = (false, eval a X.env) :: starEach [] X.env := by rfl) : PE X (.Call (.Name "sorted" p) [.Call (.Name "set" p2) [a] [] q] [] pos) (tSortSet X.K ta) := by
  refine ⟨fun pins s σ H Q I h => ?_⟩
  refine Call_ (ld_blt I hg hm boot_sorted ?_)
  refine PyProof.Rows.callWith_builtin1 (PyProof.Rows.args_cons ?_ rfl) rfl rfl
  refine Call_ (ld_blt I hg2 hm2 boot_set ?_)
  refine PyProof.Rows.callWith_type1 (PyProof.Rows.args_cons (thn (ha.run pins s σ H _ I h) fun v s1 ⟨x, H1, I1, r1, q1⟩ => PyProof.Rows.args_nil ?_) na) na rfl
  obtain ⟨l, xs, rfl, hq, hl, q1⟩ := q1
  cases r1
  obtain ⟨its, r, pl, hz⟩ := I1.list hq
  refine set_txts (I1.ok.hd hc) pl.isList (by simpa using strsAre_vals r) hl fun h' tk D l' g hk => PyProof.Rows.args_nil ?_
  have I2 : Inv X pins σ H1 { s1 with heap := h', toks := tk } := I1.kept hk
  refine sorted_txts (s := { s1 with heap := h', toks := tk }) g.at_ g.w_ (I2.ok.hd hc) g.nd (by have := g.len; omega) hu fun s' p ms out c k g1 o1 hp hget hpm eo => ?_
  have hn : H1 p = none := I2.hok.fresh hp
  have hlen : ((ms.mergeSort (PySem.W.dataLe false PyData.str)).map V.str).length ≤ sizeLine := by
    have := g.len
    rw [List.length_map, List.length_mergeSort, hpm.length_eq, sizeLine_eq]
    omega
  have J : Inv X pins σ (upd H1 p (.lst ((ms.mergeSort (PySem.W.dataLe false PyData.str)).map V.str))) s' :=
    I2.call' (s' := s') (ch := []) o1 (Un.laid k hp hn) (I2.hok.laid k hp ⟨hlen, out, c, each_strs eo, hget⟩) (by rw [g1]; exact I2.bare) (fun _ z => nomatch z)
  exact ⟨.ref p, _, J, rfl, q1 ms p (hpm.nodup_iff.mpr g.nd) (fun k => by rw [hpm.mem_iff, g.mem k, List.take_of_length_le (Nat.le_refl _)]) hn⟩
/-- the reading of sorted(set(..)) -/
def dSortSet (da : DE) : DE := fun E Q => da E fun r E1 => vw E1 r fun d => match d with
  | .lst ds => ∃ xs : List Str, ds = xs.map D.str ∧ xs.length < 4000 ∧ ∀ ms : List Str, ms.Nodup → (∀ k, k ∈ ms ↔ k ∈ xs) → Q (.fr (.lst ((ms.mergeSort (PySem.W.dataLe false PyData.str)).map D.str))) E1
  | _ => False
theorem rpl_of_strs {kt : Bool} {K : PySem.W.Frag} {S : Hp} : ∀ ns : List Str, RpL kt K S (ns.map V.str) (ns.map D.str)
  | [] => .nil
  | n :: ns => .cons (.str n) (rpl_of_strs ns)
theorem se_sortSet {kt : Bool} {a : Expr} {da : DE} {p p2 q pos : Pos} (hc : X.calm = true) (hu : X.A.units + 65 < cLine) (hg : Gl X "sorted") (hm : X.mg "sorted" = none) (hg2 : Gl X "set") (hm2 : X.mg "set" = none) (ha : SE X kt a da)
    (na : starEach [a] X.env = (false, eval a X.env) :: starEach [] X.env := by rfl) : SE X kt (.Call (.Name "sorted" p) [.Call (.Name "set" p2) [a] [] q] [] pos) (dSortSet da) := by
  obtain ⟨ta, pa, la⟩ := ha.ex
  refine ⟨_, pe_sortSet hc hu hg hm hg2 hm2 pa na, fun S H σ E Q Q' I h k => la S H σ E _ _ I h fun S1 H1 E1 v1 r1 e1 q1 n1 h1 => ?_⟩
  obtain ⟨d, hv, h2⟩ := vw_ok e1.si q1 h1
  cases d with
  | lst ds =>
    obtain ⟨xs, rfl, hl, h3⟩ := h2
    obtain ⟨b, vs, rfl, hb, rl⟩ := hv.lst e1.si.ex
    have hvs := rpl_strs rl
    subst hvs
    exact ⟨b, xs, rfl, .inl (.inl hb), hl, fun ms p n m hp => (outs_of e1 k).lst hp (rpl_of_strs _) (h3 ms n m)⟩
  | _ => exact h2.elim
end
end BD
set_option Elab.async false
set_option linter.all false
set_option maxRecDepth 100000
set_option maxHeartbeats 4000000
/-! BD: texts told often; backwards. -/
namespace BD
open PySem PySem.Spec PyProof.Rows L2
/-- a text so many times -/
def repS (z : Str) (k : Nat) : Str := ⟨((List.replicate k z.cps.toList).flatten).toArray⟩
theorem fold_rep (a : Array Nat) : ∀ (k : Nat) (b : Array Nat), ((List.replicate k a).foldl (· ++ ·) b).toList = b.toList ++ (List.replicate k a.toList).flatten
  | 0, b => by simp
  | k + 1, b => by
    rw [List.replicate_succ, List.foldl_cons, fold_rep a k, List.replicate_succ, List.flatten_cons, Array.toList_append, List.append_assoc]
theorem repS_fold (z : Str) (k : Nat) : (⟨(List.replicate k z.cps).foldl (· ++ ·) #[]⟩ : Str) = repS z k := by
  unfold repS
  congr 1
  apply Array.ext'
  rw [fold_rep]
  simp
theorem repS_len (z : Str) (k : Nat) : (repS z k).length = k * z.length := by
  show (((List.replicate k z.cps.toList).flatten).toArray).size = _
  rw [List.size_toArray, List.length_flatten, List.map_replicate, List.sum_replicate_nat, Array.length_toList]
  rfl
def rRepS : R2 := fun x y H Q => ∃ (z : Str) (k : Int), x = .str z ∧ y = .int k ∧ 0 ≤ k ∧ k ≤ sizeLine ∧ z.length * k.toNat ≤ sizeLine ∧ Q (.str (repS z k.toNat)) H
section
variable {X : Cx}
theorem op_repS : OpR X (binaryOp .Mult) rRepS := by
  intro pins s σ H x y v u Q I rx ry h
  obtain ⟨z, k, rfl, rfl, h0, hk, hz, q⟩ := h
  obtain ⟨t, rfl⟩ := rx
  obtain ⟨t', rfl⟩ := ry
  have e24 : sizeLine = 16777216 := by decide
  refine PySem.P.mul_str ?_ (fun h1 h2 => ?_) (fun h1 h2 => ?_) ?_
  · rw [decide_eq_false (by omega), decide_eq_false (by omega)]; rfl
  · have hk1 : (1 : Int) ≤ k := by omega
    have hkn : 1 ≤ k.toNat := by omega
    have hzl : z.length ≤ sizeLine := Nat.le_trans (Nat.le_mul_of_pos_right _ hkn) hz
    have h3 : (16777216 : Int) ≤ (2 ^ 63 - 1) / k := by
      rw [Int.le_ediv_iff_mul_le (by omega)]
      have : (16777216 : Int) * k ≤ 16777216 * 16777216 := by omega
      omega
    omega
  · unfold Builtin.Str.tooLong
    rw [decide_eq_false_iff_not]
    omega
  · split
    · rename_i h1
      have hk0 : k = 0 := by omega
      subst hk0
      refine ⟨by decide, .str _, H, I.tok _, ⟨_, rfl⟩, q⟩
    · split
      · rename_i h1 h2
        have e : repS z k.toNat = z := by
          rcases Bool.or_eq_true _ _ ▸ h2 with h | h
          · have : k = 1 := eq_of_beq h
            subst this
            unfold repS
            simp
          · have h4 : z.length = 0 := eq_of_beq h
            have h5 : z.cps = #[] := Array.size_eq_zero_iff.mp h4
            obtain ⟨c⟩ := z
            have h6 : c = #[] := h5
            subst h6
            unfold repS
            simp
        rw [e] at q
        exact ⟨.str z, H, I, ⟨t, rfl⟩, q⟩
      · rw [repS_fold]
        exact ⟨by rw [repS_len, Nat.mul_comm]; exact hz, .str _, H, I.tok _, ⟨_, rfl⟩, q⟩
variable {kt : Bool}
def dMul2 (a b : D) (Q : R → Prop) : Prop := match a with
  | .str z => match b with
    | .int k => (0 ≤ k ∧ k ≤ sizeLine ∧ z.length * k.toNat ≤ sizeLine) ∧ Q (.val (.str (repS z k.toNat)))
    | _ => False
  | a => dMul a b Q
theorem ob_mul2 : OpB X kt (binaryOp .Mult) dMul2 := by
  obtain ⟨r, hr, hd⟩ := (ob_mul (X := X) (kt := kt)).ex
  refine ⟨_, hr.or op_repS, fun S H v1 v2 d1 d2 Q Q' e h1 h2 h o => ?_⟩
  cases d1 with
  | str z => cases d2 with
    | int k => exact .inr ⟨z, k, h1.str, h2.int, h.1.1, h.1.2.1, h.1.2.2, o.val _ _ (.str _) h.2⟩
    | _ => exact (show False from h).elim
  | _ => exact .inl (hd S H v1 v2 _ _ Q Q' e h1 h2 h o)
end
/-! ### backwards -/
section
variable {prog : Program} {w : World} {A : Around} {E : Value → Shared → Prop} {s : Shared}
theorem adjust_rev (n : Nat) : Builtin.Slice.sliceAdjust none none (-1) (n : Int) = ((n : Int) - 1, -1) := by
  unfold Builtin.Slice.sliceAdjust
  simp
theorem places_rev (n : Nat) : Builtin.Slice.slicePlaces ((n : Int) - 1) (-1) (-1) = n := by
  unfold Builtin.Slice.slicePlaces
  have h1 : ¬ ((-1 : Int) > 0) := by decide
  rw [if_neg h1]
  by_cases h : (n : Int) - 1 > -1
  · rw [if_pos h, show (- -1 : Int) = 1 by decide, Int.ediv_one]
    omega
  · rw [if_neg h]
    omega
theorem fm_congr {α β : Type} {f g : α → Option β} : ∀ (l : List α), (∀ a ∈ l, f a = g a) → l.filterMap f = l.filterMap g
  | [], _ => rfl
  | a :: l, h => by
    rw [List.filterMap_cons, List.filterMap_cons, h a List.mem_cons_self, fm_congr l fun b hb => h b (List.mem_cons_of_mem _ hb)]
theorem pick_rev (xs : Array Value) : ((List.range xs.size).filterMap fun (k : Nat) => xs[((xs.size : Int) - 1 + (k : Int) * (-1)).toNat]?).toArray = xs.toList.reverse.toArray := by
  congr 1
  have e : ((List.range xs.size).filterMap fun (k : Nat) => xs[((xs.size : Int) - 1 + (k : Int) * (-1)).toNat]?) = ((List.range xs.size).map fun k => xs.size - 1 - k).filterMap (xs[·]?) := by
    rw [List.filterMap_map]
    refine fm_congr _ fun k hk => ?_
    have := List.mem_range.mp hk
    show _ = xs[xs.size - 1 - k]?
    congr 1
    omega
  rw [e, PySem.W.krv_range, List.filterMap_reverse, PySem.W.krv_all]
theorem tuple_rev {t sl : Addr} {items : Array Value} {tk : Tok} {Q : Value → Shared → Prop} (ht : IsTup s.heap t items) (hs : s.heap.IsSliceOf sl .none .none (.int (-1) tk)) (hsz : items.size ≤ sizeLine)
    (h : Q (.ref s.heap.objs.size) { s with heap := s.heap.push { cls := .type "tuple", data := .seq items.toList.reverse.toArray } }) : wpAny (model prog w) A (getItem (.ref t) (.ref sl)) Q E s := by
  have hz : sizeOk (.seq items.toList.reverse.toArray) := by
    show items.toList.reverse.toArray.size ≤ sizeLine
    rw [List.size_toArray, List.length_reverse, Array.length_toList]
    exact hsz
  obtain ⟨os, hos, hcs, hds⟩ := id hs
  have hTs : s.TypeIs (.ref sl) "slice" := ⟨os, hos, hcs⟩
  unfold getItem
  try with_reducible refine wpAny_holding ?_
  first | refine wpAny_bind (wpAny_pure ?_) | skip
  refine wpAny_bind (wpAny_sequenceKey ht.typeIs (by decide) ?_)
  refine wpAny_bind (wpAny_callSpecial?_slot (name := Str.ofString "__getitem__") ht.typeIs slot_tuple_getitem (wpAny_call_entry slot_tuple_getitem ht.typeIs entry_tuple_getitem ?_ (args_tuple_getitem _ _)))
  show wpAny _ _ (Builtin.Tuple.tupleItemsOf (.ref t) >>= _) _ _ s
  refine wpAny_bind (tupleItemsOf_ ht ?_)
  refine wpAny_bind (wpAny_typeOf hTs ?_)
  rw [if_pos (by decide)]
  refine wpAny_bind ?_
  unfold Builtin.Slice.sliceApplied Builtin.Slice.sliceFields
  refine wpAny_bind (wpAny_bind (wpAny_field hos hds (x := .none) rfl (wpAny_bind (wpAny_field hos hds (x := .none) rfl (wpAny_bind (wpAny_field hos hds (x := .int (-1) tk) rfl (wpAny_pure ?_)))))))
  refine wpAny_bind (slicePart_int ?_)
  show wpAny _ _ (if ((-1 : Int) == 0) = true then _ else _) _ _ s
  rw [if_neg (by decide)]
  refine wpAny_bind (slicePart_none (wpAny_bind (slicePart_none (wpAny_bind (wpAny_pure ?_)))))
  show wpAny _ _ (match Builtin.Slice.sliceAdjust none none (-1) (items.size : Int) with | (lo, hi) => pure (lo, (-1 : Int), Builtin.Slice.slicePlaces lo hi (-1))) _ _ s
  rw [adjust_rev]
  refine wpAny_pure ?_
  show wpAny _ _ (if (((items.size : Int) - 1) == 0 && (-1 : Int) == 1 && Builtin.Slice.slicePlaces ((items.size : Int) - 1) (-1) (-1) == items.size) = true then _ else _) _ _ s
  rw [if_neg (by rw [show ((-1 : Int) == 1) = false from rfl, Bool.and_false, Bool.false_and]; exact Bool.false_ne_true), places_rev, pick_rev]
  first
    | exact wpAny_bind (m := Builtin.Tuple.tupleExact _) (wpAny_newObj_type (wpAny_pure ⟨_, rfl, wpAny_pure h⟩) hz)
    | exact wpAny_bind (m := Builtin.Tuple.tupleExact _) (wpAny_newObj_type (wpAny_bind (wpAny_pure (wpAny_pure ⟨_, rfl, wpAny_pure h⟩))) hz)
    | exact wpAny_bind (wpAny_bind (m := Builtin.Tuple.tupleExact _) (wpAny_newObj_type (wpAny_pure (wpAny_pure ⟨_, rfl, wpAny_pure h⟩)) hz))
    | exact wpAny_bind (wpAny_bind (m := Builtin.Tuple.tupleExact _) (wpAny_newObj_type (wpAny_pure ⟨_, rfl, wpAny_pure h⟩) hz))
/-- a text backwards -/
def revS (z : Str) : Str := ⟨z.cps.toList.reverse.toArray⟩
theorem str_made (x : Str) (t tk : Tok) : sliceMade x t none none (some (-1, tk)) = .str (revS x) := by
  unfold sliceMade
  rw [if_neg (by show ¬ (((-1 : Int) == 1 && _) = true); rw [show ((-1 : Int) == 1) = false from rfl, Bool.false_and]; exact Bool.false_ne_true)]
  congr 2
  congr 1
  have e : slicePicked x none none (some (-1, tk)) = (List.range x.length).map fun k => x.length - 1 - k := PySem.W.krv_sliceRange x.length
  rw [e, PySem.W.krv_range, List.filterMap_reverse]
  show ((List.range x.cps.size).filterMap _).reverse = _
  rw [PySem.W.krv_all]
end
section
variable {X : Cx}
/-- xs[::-1] of any sequence -/
def tRevA (K : PySem.W.Frag) (te : TE) : TE := fun σ H Q => te σ H fun x H1 => (∃ a xs, x = .ref a ∧ SqL K H1 a xs ∧ ∀ p, H1 p = none → Q (.ref p) (upd H1 p (.lst xs.reverse))) ∨
  (∃ a xs, x = .ref a ∧ SqT K H1 a xs ∧ ∀ p, H1 p = none → Q (.ref p) (upd H1 p (.tup xs.reverse))) ∨ ∃ z : Str, x = .str z ∧ z.length ≤ sizeLine ∧ Q (.str (revS z)) H1
theorem pe_revA {e : Expr} {te : TE} {k : Nat} {p1 p2 p3 pos : Pos} (he : PE X e te) : PE X (.Subscript e (.Slice none none (some (.UnaryOp .USub (.Constant (.int 1) k p1) p2)) p3) pos) (tRevA X.K te) := by
  refine ⟨fun pins s σ H Q I h => ?_⟩
  refine Subscript_ (thn (he.run pins s σ H _ I h) fun v s1 ⟨x, H1, I1, r1, q1⟩ => ?_)
  have hst : PO X (some (.UnaryOp .USub (.Constant (.int 1) k p1) p2)) (tPart (tUn (rU fun i => .int (-i)) (tC (.int 1)))) := po_some (pe_un un_neg pe_int)
  refine wpAny_Slice (thn (po_none.run pins s1 σ H1 (fun o H2 => o = none ∧ H2 = H1) I1 ⟨rfl, rfl⟩) fun vl s2 ⟨l, H2, I2, pl, el, e2⟩ => ?_)
  subst el e2
  refine thn (po_none.run pins s2 σ H2 (fun o H3 => o = none ∧ H3 = H2) I2 ⟨rfl, rfl⟩) fun vu s3 ⟨u, H3, I3, pu, eu, e3⟩ => ?_
  subst eu e3
  refine thn (hst.run pins s3 σ H3 (fun o H4 => o = some (-1) ∧ H4 = H3) I3 ⟨1, rfl, -1, rfl, rfl, rfl⟩) fun vs s4 ⟨o, H4, I4, ps, eo, e4⟩ => ?_
  subst eo e4
  cases pl
  cases pu
  cases ps with
  | int _ tk =>
  have I5 : Inv X pins σ H4 { s4 with heap := s4.heap.push { cls := .type "slice", data := .fields #[.none, .none, .int (-1) tk] } } := I4.kept (t' := s4.toks) fun b ob q => Heap.get?_push_of_some _ q
  show wpAny (model X.prog X.w) X.A (subscriptTail e (.Slice none none (some (.UnaryOp .USub (.Constant (.int 1) k p1) p2)) p3) v (.ref s4.heap.objs.size)) (EP X pins σ Q) X.xe { s4 with heap := s4.heap.push { cls := .type "slice", data := .fields #[.none, .none, .int (-1) tk] } }
  rcases q1 with ⟨a, xs, rfl, hx, q⟩ | ⟨a, xs, rfl, hx, q⟩ | ⟨z, rfl, hz, q⟩
  · cases r1
    obtain ⟨its, r, ht, hz⟩ := I5.list hx
    have hlen := r.length
    refine tail_any (ops := [.ref a, .ref s4.heap.objs.size]) ht.isList.typeIs (PySem.slot_list_getitem.lookup) ?_ (by with_unfolding_all rfl)
    refine wpAny_getItem_list_slice ht.isList (Heap.IsSliceOf.new _ .none .none (.int (-1) tk)) .none .none (.int _ _) (by decide) ?_ (by rw [List.size_toArray]; omega)
    rw [PySem.W.krv_pick]
    refine ⟨.ref _, _, I5.laid (t' := s4.toks) (o := .lst xs.reverse) (fun b ob q => Heap.get?_push_of_some _ q) (Nat.le_refl _) ?_, rfl, q _ (I5.hok.fresh (Nat.le_refl _))⟩
    exact ⟨by rw [List.length_reverse]; exact hz, _, 0, r.reverse, Heap.get?_push_size _ rfl⟩
  · cases r1
    obtain ⟨its, r, ht, hz⟩ := I5.tuple hx
    have hlen := r.length
    refine tail_any (ops := [.ref a, .ref s4.heap.objs.size]) ht.typeIs slot_tuple_getitem.lookup ?_ (by with_unfolding_all rfl)
    refine tuple_rev ht (Heap.IsSliceOf.new _ .none .none (.int (-1) tk)) (by rw [List.size_toArray]; omega) ?_
    refine ⟨.ref _, _, I5.laid (t' := s4.toks) (o := .tup xs.reverse) (fun b ob q => Heap.get?_push_of_some _ q) (Nat.le_refl _) ?_, rfl, q _ (I5.hok.fresh (Nat.le_refl _))⟩
    exact ⟨by rw [List.length_reverse]; exact hz, _, r.reverse, ⟨_, Heap.get?_push_size _ rfl, rfl, _, rfl⟩⟩
  · obtain ⟨t, rfl⟩ := r1
    refine tail_any (ops := [.str z t, .ref s4.heap.objs.size]) (typeIs_str _ z t) (PySem.F.slot_str_getitem.lookup) ?_ (by with_unfolding_all rfl)
    refine wpAny_getItem_str_slice (l := none) (u := none) (st := some (-1, tk)) ⟨_, Heap.get?_push_size _ rfl, rfl, rfl⟩ rfl ?_
    rw [str_made]
    exact ⟨by show z.cps.toList.reverse.toArray.size ≤ _; rw [List.size_toArray, List.length_reverse, Array.length_toList]; exact hz, .str (revS z), H4, I5.tok _, ⟨_, rfl⟩, q⟩
/-- the reading of x[::-1] -/
def dRev (d : D) (Q : R → Prop) : Prop := match d with
  | .lst xs => Q (.fr (.lst xs.reverse))
  | .tup xs => Q (.val (.tup xs.reverse))
  | .str z => z.length ≤ sizeLine ∧ Q (.val (.str (revS z)))
  | _ => False
variable {kt : Bool}
theorem se_back {e : Expr} {da : DE} {k : Nat} {p1 p2 p3 pos : Pos} (ha : SE X kt e da) : SE X kt (.Subscript e (.Slice none none (some (.UnaryOp .USub (.Constant (.int 1) k p1) p2)) p3) pos) (dUn dRev da) := by
  obtain ⟨ta, pa, la⟩ := ha.ex
  refine ⟨_, pe_revA pa, fun S H σ E Q Q' I h k => la S H σ E _ _ I h fun S1 H1 E1 v1 r1 e1 q1 n1 h1 => ?_⟩
  obtain ⟨d, w, h4⟩ := vw_ok e1.si q1 h1
  have o := outs_of e1 k
  cases d with
  | str z => exact .inr (.inr ⟨z, w.str, h4.1, o.val _ _ (.str _) h4.2⟩)
  | lst xs =>
    obtain ⟨p, vs, rfl, hp, r⟩ := w.lst e1.si.ex
    exact .inl ⟨p, vs, rfl, .of hp, fun q hq => o.lst hq r.reverse h4⟩
  | tup xs =>
    obtain ⟨p, vs, rfl, hp, r⟩ := w.tup e1.si.ex
    exact .inr (.inl ⟨p, vs, rfl, hp, fun q hq => o.tup q _ _ hq r.reverse h4⟩)
  | _ => exact (show False from h4).elim
end
/-- min, max, not looked into -/
@[irreducible] def dMinQ (d : D) (Q : R → Prop) : Prop := dMinD d Q
@[irreducible] def dMaxQ (d : D) (Q : R → Prop) : Prop := dMaxD d Q
theorem dMinQ_eq : dMinQ = dMinD := by funext d Q; unfold dMinQ; rfl
theorem dMaxQ_eq : dMaxQ = dMaxD := by funext d Q; unfold dMaxQ; rfl
theorem cb_minQ {X : Cx} {kt : Bool} (hc : X.calm = true) (hu : X.A.units + 65 < cLine) : CallB X kt (.builtin "min") (d1 dMinQ) := by rw [dMinQ_eq]; exact cb_minA hc hu
theorem cb_maxQ {X : Cx} {kt : Bool} (hc : X.calm = true) (hu : X.A.units + 65 < cLine) : CallB X kt (.builtin "max") (d1 dMaxQ) := by rw [dMaxQ_eq]; exact cb_maxA hc hu
end BD
set_option Elab.async false
set_option linter.all false
set_option maxRecDepth 100000
set_option maxHeartbeats 4000000
/-! BD: comprehensions with two clauses, item by item. -/
namespace BD
open PySem PySem.Spec PyProof.Rows L2
theorem lc2_fm {ct : CT} {tt : DT} {src1 : DQ} {ct1 : CT} {tt1 : DT} {de : DV} {vs vs1 : List Nat} {done : List D → List Cell → Prop} (g : D → List D) (E0 : List Cell) : ∀ (items acc : List D),
    (∀ x, x ∈ items → ∀ (acc : List D) (k : List D → List Cell → Prop), acc.length + (g x).length ≤ sizeLine → k (acc ++ g x) E0 → putCT ct x E0 fun E1 => tt E1 fun b E2 => if b = true then src1 E2 fun items1 E3 => lcL ct1 tt1 de vs1 (fun acc' E4 => k acc' (wipeE E4 vs)) items1 acc (wipeE E3 vs1) else k acc (wipeE E2 vs)) →
    acc.length + (items.flatMap g).length ≤ sizeLine → done (acc ++ items.flatMap g) E0 → lcL2 ct tt src1 ct1 tt1 de vs vs1 done items acc E0
  | [], acc, _, _, h => by rw [List.flatMap_nil, List.append_nil] at h; exact h
  | x :: r, acc, hs, hl, h => by
    rw [List.flatMap_cons] at hl h
    rw [List.length_append] at hl
    refine hs x List.mem_cons_self acc (fun acc' E => lcL2 ct tt src1 ct1 tt1 de vs vs1 done r acc' E) (by omega) ?_
    refine lc2_fm g E0 r _ (fun y hy => hs y (List.mem_cons_of_mem _ hy)) (by rw [List.length_append]; omega) ?_
    rw [List.append_assoc]
    exact h
/-! ### min of two texts -/
section
variable {prog : Program} {w : World} {A : Around} {E : Value → Shared → Prop} {s : Shared}
theorem min2_txt {x y : Str} {t u : Tok} {Q : Value → Shared → Prop} (hh : A.handled = none)
    (h : ∀ h' tk, (∀ c o, s.heap.get? c = some o → h'.get? c = some o) → Q (if y.cps.toList < x.cps.toList then .str y u else .str x t) { s with heap := h', toks := tk }) :
    wpAny (model prog w) A (call (.builtin "min") [.str x t, .str y u]) Q E s := by
  have hT : (s.heap.push { cls := .type "tuple", data := .seq #[.str x t, .str y u] }).IsTuple s.heap.objs.size #[.str x t, .str y u] := ⟨_, Heap.get?_push_size _ rfl, rfl, 0, rfl⟩
  have hz : (s.heap.push { cls := .type "tuple", data := .seq #[.str x t, .str y u] }).objs.size = s.heap.objs.size + 1 := Heap.size_push ..
  let tx : Nat → Str := fun i => if i = 0 then x else y
  have cmp : CmpOf prog w A.in1 .Lt (fun i v => (#[Value.str x t, Value.str y u])[i]? = some v) (fun i j => decide ((tx i).cps.toList < (tx j).cps.toList)) := fun i j vi vj s Q E hi hj hq => by
    have g : ∀ i v, (#[Value.str x t, Value.str y u])[i]? = some v → ∃ k : Tok, v = Value.str (tx i) k := fun i v hv => by
      match i, hv with
      | 0, hv => exact ⟨t, (Option.some.inj hv).symm⟩
      | 1, hv => exact ⟨u, (Option.some.inj hv).symm⟩
      | n + 2, hv => simp at hv
    obtain ⟨k1, rfl⟩ := g i vi hi
    obtain ⟨k2, rfl⟩ := g j vj hj
    exact richCompare_gives (op := .Lt) (typeIs_str s _ k1) (typeIs_str s _ k2) F.slot_str_lt F.entry_str_lt (F.args_str_lt_2 _ _) (gives_str_lt _ _ k1 k2) (fun e => nomatch e) hq
  refine call_min_two (wpAny_pyIter_tuple hT ?_)
  refine ⟨_, [_, s.heap.objs.size], [_], _, _, _, _, rfl, Walks.tuple (A := A.in1) hh _ s.heap.objs.size (by rw [hz]; exact Nat.ne_of_lt (Nat.lt_succ_self _)) #[.str x t, .str y u],
    ⟨⟨_, Heap.get?_push_size _ rfl, rfl, rfl⟩, hT.push _⟩, fun d hd => ?_, by simp, cmp, fun v h' tk hP hk => ?_⟩
  · show d < ((s.heap.push _).push _).objs.size
    rw [Heap.size_push, hz]
    rcases List.mem_cons.mp hd with e | hd
    · rw [e, hz]; exact Nat.lt_succ_self _
    · rw [List.mem_singleton.mp hd]; exact Nat.lt_succ_of_lt (Nat.lt_succ_self _)
  · have old : ∀ c o, s.heap.get? c = some o → h'.get? c = some o := fun c o e => by
      refine hk c o (fun hm => ?_) (Heap.get?_push_of_some _ (Heap.get?_push_of_some _ e))
      have e1 := List.mem_singleton.mp hm
      have := Heap.lt_size e
      rw [e1, hz] at this
      exact Nat.lt_irrefl _ (Nat.lt_of_succ_lt this)
    have q := h h' tk old
    have hv : v = if y.cps.toList < x.cps.toList then Value.str y u else Value.str x t := by
      have hP' : (#[Value.str x t, Value.str y u])[argBest (fun i j => decide ((tx i).cps.toList < (tx j).cps.toList)) 1]? = some v := hP
      by_cases c : y.cps.toList < x.cps.toList
      · have e : argBest (fun i j => decide ((tx i).cps.toList < (tx j).cps.toList)) 1 = 1 := by
          show (if decide ((tx 1).cps.toList < (tx 0).cps.toList) = true then 1 else 0) = 1
          rw [if_pos (show decide ((tx 1).cps.toList < (tx 0).cps.toList) = true from decide_eq_true c)]
        rw [e] at hP'
        rw [if_pos c]
        exact (Option.some.inj hP').symm
      · have e : argBest (fun i j => decide ((tx i).cps.toList < (tx j).cps.toList)) 1 = 0 := by
          show (if decide ((tx 1).cps.toList < (tx 0).cps.toList) = true then 1 else 0) = 0
          rw [if_neg (show ¬ decide ((tx 1).cps.toList < (tx 0).cps.toList) = true from fun z => c (of_decide_eq_true z))]
        rw [e] at hP'
        rw [if_neg c]
        exact (Option.some.inj hP').symm
    rw [hv]; exact q
end
section
variable {X : Cx} {kt : Bool}
def dMin2S : D → D → (R → Prop) → Prop
  | .str x, .str y, Q => Q (.val (.str (if y.cps.toList < x.cps.toList then y else x)))
  | _, _, _ => False
theorem call_min2S (hc : X.calm = true) : CallR X (.builtin "min") (fun xs H Q => ∃ x y : Str, xs = [.str x, .str y] ∧ Q (.str (if y.cps.toList < x.cps.toList then y else x)) H) := by
  intro pins s σ H xs us Q I r h
  obtain ⟨x, y, rfl, q⟩ := h
  obtain ⟨u, w', rfl, ⟨t, rfl⟩, ⟨t', rfl⟩⟩ := vals2 r
  refine min2_txt (I.ok.hd hc) fun h' tk k => ⟨_, H, I.kept k, ?_, q⟩
  by_cases hj : y.cps.toList < x.cps.toList
  · rw [if_pos hj, if_pos hj]; exact ⟨_, rfl⟩
  · rw [if_neg hj, if_neg hj]; exact ⟨_, rfl⟩
theorem cb_min2S (hc : X.calm = true) : CallB X kt (.builtin "min") (d2 dMin2S) := ⟨_, call_min2S hc, cd_two fun S H v w d d' Q Q' e w1 w2 h o => by
  cases d with
  | str i => cases d' with
    | str j => cases w1.str; cases w2.str; exact ⟨i, j, rfl, o.val _ _ (.str _) h⟩
    | _ => exact (show False from h).elim
  | _ => exact (show False from h).elim⟩
end
end BD
set_option Elab.async false
set_option linter.all false
set_option maxRecDepth 100000
set_option maxHeartbeats 4000000
/-! BD: exact tuples (xt): tuple(list), t + u, t.index(x); key tuples (ks); both read as tuples. -/
namespace BD
open PySem PySem.Spec PyProof.Rows L2
/-! ### as a tuple of any kind -/
mutual
def wk : D → D
  | .lst xs => .lst (wks xs)
  | .tup xs => .tup (wks xs)
  | .xt xs => .tup (wks xs)
  | .ks xs => .tup (wks xs)
  | .non => .non
  | .bl b => .bl b
  | .int i => .int i
  | .str x => .str x
  | .dk kvs => .dk kvs
  | .dt kvs => .dt kvs
  | .scr ns => .scr ns
def wks : List D → List D
  | [] => []
  | d :: ds => wk d :: wks ds
end
theorem wks_map : ∀ ds : List D, wks ds = ds.map wk
  | [] => rfl
  | d :: ds => by rw [wks, wks_map ds]; rfl
section
variable {K : PySem.W.Frag} {S H : Hp}
mutual
theorem Rp.wk : ∀ {v : V} {d : D}, Rp true K S v d → Rp true K S v (wk d)
  | _, _, .non => .non
  | _, _, .bl b => .bl b
  | _, _, .int i => .int i
  | _, _, .str x => .str x
  | _, _, .lst h r => .lst h (RpL.wk r)
  | _, _, .tup h r => .tup h (RpL.wk r)
  | _, _, .xt h _ r => .tup (.inr ⟨rfl, .inl (.inr ⟨_, h⟩)⟩) (RpL.wk r)
  | _, _, .ks h r => .tup (.inl h) (RpL.wk r)
  | _, _, .dk h r => .dk h r
  | _, _, .dt h r => .dt h r
  | _, _, .scr h => .scr h
theorem RpL.wk : ∀ {vs : List V} {ds : List D}, RpL true K S vs ds → RpL true K S vs (wks ds)
  | _, _, .nil => .nil
  | _, _, .cons r t => .cons (Rp.wk r) (RpL.wk t)
end
theorem Own.wk {o : HO} {d : D} (h : Own true K S o d) : Own true K S o (BD.wk d) := by
  cases d with
  | lst ds => obtain ⟨vs, h1, h2⟩ := (show ∃ vs, o = .lst vs ∧ RpL true K S vs ds from h); exact ⟨vs, h1, RpL.wk h2⟩
  | dk ds => exact h
  | dt ds => exact h
  | _ => exact (show False from h).elim
end
/-- what is given, read as plain data -/
def dWk (da : DE) : DE := fun E Q => da E fun r E1 => match r with
  | .val d => Q (.val (wk d)) E1
  | .fr d => Q (.fr (wk d)) E1
  | .cell i => match nth E1 i with
    | .val d => Q (.val (wk d)) E1
    | _ => Q (.cell i) E1
section
variable {X : Cx} {e : Expr} {da : DE}
theorem se_wk (ha : SE X true e da) : SE X true e (dWk da) := by
  obtain ⟨t, p, l⟩ := ha.ex
  refine ⟨t, p, fun S H σ E Q Q' I h k => l S H σ E _ _ I h fun S1 H1 E1 v r e1 q1 n1 h1 => ?_⟩
  cases r with
  | val d => exact k S1 H1 E1 v (.val (wk d)) e1 (Rp.wk q1) trivial h1
  | fr d =>
    obtain ⟨p, o, hv, hs, ha, hh, ho⟩ := q1
    exact k S1 H1 E1 v (.fr (wk d)) e1 ⟨p, o, hv, hs, ha, hh, ho.wk⟩ n1 h1
  | cell i =>
    have h2 : (match BD.nth E1 i with | .val d => Q (.val (wk d)) E1 | _ => Q (.cell i) E1) := h1
    cases e2 : BD.nth E1 i with
    | val d =>
      rw [e2] at h2
      obtain ⟨w, hw, hr⟩ := e1.si.val i d e2
      have : w = v := by have := hw.symm.trans q1.1; simpa using this
      exact k S1 H1 E1 v (.val (wk d)) e1 (this ▸ Rp.wk hr) trivial h2
    | un => rw [e2] at h2; exact k S1 H1 E1 v (.cell i) e1 q1 trivial h2
    | ro d => rw [e2] at h2; exact k S1 H1 E1 v (.cell i) e1 q1 trivial h2
    | own d => rw [e2] at h2; exact k S1 H1 E1 v (.cell i) e1 q1 trivial h2
    | bor d => rw [e2] at h2; exact k S1 H1 E1 v (.cell i) e1 q1 trivial h2
end
/-! ### tuple(xs), exact -/
section
variable {X : Cx} {kt : Bool}
abbrev tupO (its : List Value) : Obj := { cls := .type "tuple", data := .seq its.toArray }
def rTupX (K : PySem.W.Frag) : List V → Hp → VK → Prop := fun xs H Q => ∃ p ys, xs = [.ref p] ∧ SqL K H p ys ∧ ∀ l (o : Obj), H l = none → o.dict = none → Q (.ref l) (upd H l (.frz o (.tup ys)))
theorem call_tupX : CallR X (.type "tuple") (rTupX X.K) := by
  intro pins s σ H xs us Q I r h
  obtain ⟨p, ys, rfl, hq, q⟩ := h
  obtain ⟨u, rfl, rx⟩ := vals1 r
  cases rx
  obtain ⟨its, r', pl, hz⟩ := I.list hq
  have hlen := r'.length
  refine call_tuple_list pl.isList (fun h' kp => ?_) (by simp only [List.size_toArray] <;> omega)
  have I1 : Inv X pins σ H { s with heap := h' } := I.kept (t' := s.toks) kp
  have hg : (h'.push (tupO its)).get? h'.objs.size = some (tupO its) := Heap.get?_push_size _ rfl
  have I2 : Inv X pins σ (upd H h'.objs.size (.frz (tupO its) (.tup ys))) { s with heap := h'.push (tupO its) } :=
    I1.laid (t' := s.toks) (fun b o e => Heap.get?_push_of_some _ e) (Nat.le_refl _) (show ObjOk X.prog X.w _ _ _ (.frz (tupO its) (.tup ys)) from ⟨hg, hz, its, r', ⟨_, hg, rfl, _, rfl⟩⟩)
  exact ⟨.ref h'.objs.size, _, I2, rfl, q _ _ (I1.hok.fresh (Nat.le_refl _)) rfl⟩
def dTupX (d : D) (Q : R → Prop) : Prop := match d with
  | .lst xs => Q (.val (.xt xs))
  | _ => False
theorem cb_tupX : CallB X kt (.type "tuple") (d1 dTupX) := ⟨_, call_tupX, cd_one fun S H v d Q Q' e w h o => by
  cases d with
  | lst xs =>
    obtain ⟨p, vs, rfl, hp, r⟩ := w.lst e
    exact ⟨p, vs, rfl, .of hp, fun l ob hl hd => o.xt l ob _ _ hl hd r h⟩
  | _ => exact (show False from h).elim⟩
/-! ### t + u, exact -/
def rCatX (K : PySem.W.Frag) : R2 := fun x y H Q => ∃ a b xs ys, x = .ref a ∧ y = .ref b ∧ SqT K H a xs ∧ SqT K H b ys ∧ xs.length + ys.length ≤ sizeLine ∧
  (xs = [] → Q (.ref b) H) ∧ (xs ≠ [] → ys = [] → Q (.ref a) H) ∧ (xs ≠ [] → ys ≠ [] → ∀ p (o : Obj), H p = none → o.dict = none → Q (.ref p) (upd H p (.frz o (.tup (xs ++ ys)))))
theorem op_catX : OpR X (binaryOp .Add) (rCatX X.K) := by
  intro pins s σ H x y v u Q I rx ry h
  obtain ⟨a, b, xs, ys, rfl, rfl, ha, hb, hz, q0, q1, q2⟩ := h
  cases rx
  cases ry
  obtain ⟨its, r1, p1, _⟩ := I.tuple ha
  obtain ⟨its2, r2, p2, _⟩ := I.tuple hb
  by_cases hx : xs = []
  · subst hx
    cases r1
    exact cat_tup0 p1 p2 ⟨.ref b, H, I, rfl, q0 rfl⟩
  · refine HT.cat_tup p1 p2 (fun z => hx (r1.nil_iff.mp z)) (fun z => ⟨.ref a, H, I, rfl, q1 hx (r2.nil_iff.mp z)⟩) (fun z => ?_) (by rw [← r1.length, ← r2.length]; exact hz)
    have hg : (s.heap.push (tupO (its ++ its2))).get? s.heap.objs.size = some (tupO (its ++ its2)) := Heap.get?_push_size _ rfl
    refine ⟨.ref s.heap.objs.size, _, I.laid (t' := s.toks) (o := .frz (tupO (its ++ its2)) (.tup (xs ++ ys))) (fun b ob q => Heap.get?_push_of_some _ q) (Nat.le_refl _) ?_, rfl, q2 hx (fun w => z (r2.nil_iff.mpr w)) _ _ (I.hok.fresh (Nat.le_refl _)) rfl⟩
    exact ⟨hg, by rw [List.length_append]; exact hz, _, r1.append r2, ⟨_, hg, rfl, _, rfl⟩⟩
def tupOf : D → Option (List D)
  | .tup xs => some xs
  | .xt xs => some xs
  | .ks xs => some xs
  | _ => none
theorem Vw.tupOf {K : PySem.W.Frag} {S H : Hp} {v : V} {d : D} {xs : List D} (e : Same S H) (h : Vw kt K S H v d) (hd : BD.tupOf d = some xs) : ∃ p vs, v = .ref p ∧ SqT K H p vs ∧ RpL kt K S vs xs ∧ Rp kt K S v d := by
  have hr : Rp kt K S v d := h.elim id fun ⟨_, _, _, _, z⟩ => by cases d <;> first | exact (show False from z).elim | cases hd
  cases hr with
  | tup h1 h2 => cases hd; exact ⟨_, _, rfl, (h1.mono e).sqt, h2, .tup h1 h2⟩
  | xt h1 h2 h3 => cases hd; exact ⟨_, _, rfl, .inl (.inr ⟨_, e _ _ h1⟩), h3, .xt h1 h2 h3⟩
  | ks h1 h2 => cases hd; exact ⟨_, _, rfl, .inl (.inl (e _ _ h1)), h2, .ks h1 h2⟩
  | _ => cases hd
/-- t + u: the one of the two, or a new exact one -/
def dCatX (a b : D) (Q : R → Prop) : Prop := ∃ xs ys, tupOf a = some xs ∧ tupOf b = some ys ∧ xs.length + ys.length ≤ sizeLine ∧ (xs = [] → Q (.val b)) ∧ (xs ≠ [] → ys = [] → Q (.val a)) ∧ (xs ≠ [] → ys ≠ [] → Q (.val (.xt (xs ++ ys))))
theorem ob_catX : OpB X kt (binaryOp .Add) dCatX := by
  refine ⟨_, op_catX, fun S H v1 v2 d1 d2 Q Q' e h1 h2 h o => ?_⟩
  obtain ⟨xs, ys, e1, e2, hz, q0, q1, q2⟩ := h
  obtain ⟨a, vs, rfl, s1, r1, p1⟩ := h1.tupOf e e1
  obtain ⟨b, ws, rfl, s2, r2, p2⟩ := h2.tupOf e e2
  refine ⟨a, b, vs, ws, rfl, rfl, s1, s2, by rw [r1.length, r2.length]; exact hz, fun z => ?_, fun z1 z2 => ?_, fun z1 z2 p ob hp hd => ?_⟩
  · subst z; cases r1; exact o.val _ _ p2 (q0 rfl)
  · subst z2
    cases r2
    refine o.val _ _ p1 (q1 (fun z => z1 ?_) rfl)
    subst z; cases r1; rfl
  · refine o.xt p ob _ _ hp hd (r1.append r2) (q2 (fun z => z1 ?_) fun z => z2 ?_)
    · subst z; cases r1; rfl
    · subst z; cases r2; rfl
/-! ### t.index(i), t exact and of ints -/
def tIdxX (K : PySem.W.Frag) (te : TE) (t : TA) : TE := fun σ H Q => te σ H fun x H1 => (∃ (a : Addr) (o : Obj) (vs : List V), x = .ref a ∧ H1 a = some (.frz o (.tup vs)) ∧ o.dict = none) ∧ t σ H1 fun xs H2 => ∃ (a : Addr) (ns : List Int) (i : Int), x = .ref a ∧ xs = [.int i] ∧ SqT K H2 a (ns.map V.int) ∧ i ∈ ns ∧ Q (.int (ns.idxOf i : Nat)) H2
theorem ints_vals : ∀ {ns : List Int} {us : List Value}, Vals (ns.map V.int) us → IntsAre us ns
  | [], _, .nil => .nil
  | n :: ns, _, .cons r t => by
    obtain ⟨k, rfl⟩ := r
    exact .cons n k (ints_vals t)
theorem pe_idxX {o e : Expr} {to : TE} {t : TA} {apos cpos : Pos} (ho : PE X o to) (ha : PA X [e] t)
    (hbase : attributeBase o "index" X.env (eval o X.env) = eval o X.env := by rfl)
    (hfew : ((backTo cpos (starEach [e] X.env)).all (fun x => !x.1) && (backToKw cpos (keywordEach [] X.env)).all (fun x => x.1.isSome)
      && decide (([e] : List Expr).length + ([] : List Keyword).length + (if ([] : List Keyword).isEmpty then 0 else 1) < 30)) = true := by rfl)
    (hline : (apos.endLine == cpos.line) = true := by rfl) (hs : starEach [e] X.env = (false, eval e X.env) :: starEach [] X.env := by rfl) (hplain : (backTo cpos (starEach [] X.env)).any (·.1) = false := by rfl) :
    PE X (.Call (.Attribute o "index" apos) [e] [] cpos) (tIdxX X.K to t) := by
  refine ⟨fun pins s σ H Q I h => ?_⟩
  refine wpAny_Call_method_late hbase hfew hline rfl (thn (ho.run pins s σ H _ I h) fun v s1 ⟨x, H1, I1, r1, ty, q1⟩ => ?_)
  obtain ⟨a, ob, vs, rfl, hH, hd⟩ := ty
  cases r1
  obtain ⟨hg, _, its0, _, ht0⟩ := (show ObjOk X.prog X.w H1 s1.heap a (.frz ob (.tup vs)) from I1.hok a _ hH)
  refine ⟨"tuple", "tuple.index", PySem.F.plainAttrs_tuple, PySem.F.slot_tuple_index, PySem.F.type_tuple_index, ht0.typeIs, fun b e => by cases e; exact ⟨ob, hg, hd⟩, ?_⟩
  have hA := ha.run cpos pins s1 σ H1 _ I1 q1
  rw [hs] at hA ⊢
  refine Calls.callWith_builtin (by show (false || (backTo cpos (starEach [] X.env)).any (·.1)) = false; rw [hplain] <;> rfl) (Calls.evalArgs_plain ?_)
  refine thn hA fun us s2 ⟨xs, H2, I2, r2, q2⟩ => ?_
  obtain ⟨a', ns, i, e1, rfl, hs2, hi, q⟩ := q2
  cases e1
  obtain ⟨u, rfl, t', rfl⟩ := vals1 r2
  obtain ⟨its, r, pl, hz⟩ := I2.tuple hs2
  exact PySem.SeqAt.tuple_index_ints pl (ints_vals r) hi ⟨.int (ns.idxOf i : Nat), H2, I2.tok _, ⟨_, rfl⟩, q⟩
/-- the reading of t.index(i) -/
def dIdxX (da : DE) (dr : DR) : DE := fun E Q => da E fun r E1 => vw E1 r fun d => match d with
  | .xt ds => dr E1 fun rs E2 => vws E2 rs fun xs => match xs with
    | [.int i] => ∃ ns : List Int, ds = ns.map D.int ∧ i ∈ ns ∧ Q (.val (.int (ns.idxOf i : Nat))) E2
    | _ => False
  | _ => False
theorem se_idxX {a b : Expr} {da : DE} {dr : DR} {apos pos : Pos} (ha : SE X kt a da) (hr : SR X kt [b] dr)
    (hbase : attributeBase a "index" X.env (eval a X.env) = eval a X.env := by rfl)
    (hfew : ((backTo pos (starEach [b] X.env)).all (fun x => !x.1) && (backToKw pos (keywordEach [] X.env)).all (fun x => x.1.isSome)
      && decide (([b] : List Expr).length + ([] : List Keyword).length + (if ([] : List Keyword).isEmpty then 0 else 1) < 30)) = true := by rfl)
    (hline : (apos.endLine == pos.line) = true := by rfl) (hs : starEach [b] X.env = (false, eval b X.env) :: starEach [] X.env := by rfl) (hplain : (backTo pos (starEach [] X.env)).any (·.1) = false := by rfl) :
    SE X kt (.Call (.Attribute a "index" apos) [b] [] pos) (dIdxX da dr) := by
  obtain ⟨t, q, l⟩ := ha.ex
  obtain ⟨tr, qr, lr⟩ := hr.ex
  refine ⟨_, pe_idxX q qr hbase hfew hline hs hplain, fun S H σ E Q Q' I h k => l S H σ E _ _ I h fun S1 H1 E1 v r e1 q1 n1 h1 => ?_⟩
  obtain ⟨d, w, h2⟩ := vw_ok e1.si q1 h1
  cases d with
  | xt ds =>
    have hr : Rp kt X.K S1 v (.xt ds) := w.elim id fun ⟨_, _, _, _, z⟩ => (show False from z).elim
    cases hr with
    | xt g1 g2 g3 =>
      rename_i p vs ob
      refine ⟨⟨p, ob, vs, rfl, e1.si.ex _ _ g1, g2⟩, lr S1 H1 σ E1 _ _ e1.si h2 fun S2 H2 E2 us rs e2 qs ns h3 => ?_⟩
      obtain ⟨xs, ws, h4⟩ := vws_ok e2.si qs h3
      match xs, ws, h4 with
      | [.int i], ws, h4 =>
        obtain ⟨is, rfl, hi, h5⟩ := h4
        obtain ⟨u, rfl, w1⟩ := ws.one
        cases w1.int
        have hv := rpl_ints g3
        subst hv
        have g1' := e2.si.ex _ _ (e2.fr.ex _ _ g1)
        exact ⟨p, is, i, rfl, rfl, .inl (.inr ⟨ob, g1'⟩), hi, k S2 H2 E2 _ (.val (.int _)) (e1.trans e2) (.int _) trivial h5⟩
  | _ => exact h2.elim
/-! ### (a, b), a key -/
def dTupK (d : DA) : DE := fun E Q => d E fun xs E1 => xs.length ≤ sizeLine ∧ Q (.val (.ks xs)) E1
theorem se_tupK {x1} {es : List Expr} {d : DA} {pos : Pos} (h : SA X kt es d) : SE X kt (.Tuple es x1 pos) (dTupK d) := by
  obtain ⟨t, p, l⟩ := h.ex
  exact ⟨_, pe_tup p, fun S H σ E Q Q' I h k => l S H σ E _ _ I h fun S1 H1 E1 vs xs e1 r1 h1 => ⟨by rw [r1.length]; exact h1.1, fun p hp => (outs_of e1 k).ks p vs xs hp r1 h1.2⟩⟩
end
end BD
set_option Elab.async false
set_option linter.all false
set_option maxRecDepth 100000
set_option maxHeartbeats 4000000
/-! BD: {k: v for .. in ..}, keys numbers, texts or tuples of them. -/
namespace BD
open PySem PySem.Spec PyProof.Rows L2
section
variable {X : Cx} {pins : List (Addr × Obj)} {σ : L2.St} {H H' : Hp} {s : Shared} {a : Addr} {y v : V} {u r : Value} {E : Value → Shared → Prop}
/-- d[y] = v within a comprehension -/
theorem dset_put {Q : Unit → Shared → Prop} (hu : X.A.units + 1 < cLine) (inv : Inv X pins σ H s) (g : DPut H a y v H') (ry : RelV y u) (rv : RelV v r) (q : ∀ s', Inv X pins σ H' s' → Q () s') :
    wpAny (model X.prog X.w) X.A (dictSet a u r) Q E s := by
  rcases g with ⟨kvs, k, e, rfl, l, rfl⟩ | ⟨kvs, k, b, e, rfl, eb, l, rfl⟩
  · exact d_dictSet inv e l ry rv q
  · cases (show u = Value.ref b from ry)
    obtain ⟨z, hd, xs, rel, dd⟩ := dt_of inv.hok e
    have hz : xs.length ≤ sizeLine := by
      rw [← Paired.length rel]
      exact z
    have hl : (putK kvs k v).length ≤ sizeLine := by
      have := length_putK kvs k v
      omega
    have rm : (tupleKind (mixKind X.prog X.w)).room X.A := show X.A.units < cLine by omega
    refine wpAny_dictSet_heap (hsz := hz) rm (key_of inv.hok eb) dd ?_
    intro h2 dd2 hs
    refine q _ ?_
    obtain ⟨ob, es, ep, hq, g2, g3, g4, _, g5⟩ := dd2
    have kt := rel.put k eb rv
    refine d_write inv (by rw [e]; trivial) hs ⟨ob, hq⟩ ⟨hl, hd, _, kt.keeps ?_, ob, es, ep, hq, g2, g3, g4, g5⟩
    intro c ys ec
    have ne : c ≠ a := ne_of ec e fun z => nomatch z
    rw [upd_ne ne]
    exact ec
end
section
variable {X : Cx}
/-- {k: v for tg in iter if ..}: D the new dict, o0 its kind -/
def tDcP (o0 : HO) (wi : TI) (g : TG) (tt : TT) (tk tv : TE) (vs : List Nat) : TE := fun σ H Q =>
  wi σ H fun J H1 => ∀ D, H1 D = none →
    ∃ W : Nat → Nat → Hp → Prop, (∃ m, W 0 m (upd H1 D o0)) ∧
      ∀ i m H2, W i m H2 →
        (J.stop i H2 ∧ Q (.ref D) H2) ∨
        (J.go i H2 ∧ ∃ Nx : Hp → Prop, (∀ H3, Nx H3 → ∃ m', m' < m ∧ W (i + 1) m' H3) ∧
          ∀ x H3, J.yld i H2 x H3 → g x (L2.wipe σ vs) H3 fun σ2 H4 => L2.wipe σ2 vs = L2.wipe σ vs ∧
            tt σ2 H4 fun b H5 => if b = true then tk σ2 H5 fun y H6 => tv σ2 H6 fun z H7 => ∃ H8, DPut H7 D y z H8 ∧ Nx H8 else Nx H5)
/-- {} of either kind -/
def dNew (o0 : HO) : Prop := o0 = .dK [] ∨ o0 = .dT []
theorem dNew_ok {o0 : HO} (n : dNew o0) {P : Program} {w : World} {H : Hp} (h : Heap) (big : sysModules < h.objs.size) :
    ObjOk P w H (h.push { cls := .type "dict", data := .dict #[] }) h.objs.size o0 := by
  rcases n with rfl | rfl
  · exact dk_empty h big
  · exact dt_empty h big
theorem pe_dcP {o0 : HO} {kx vx tg iter : Expr} {ifs : List Expr} {scope : Scope} {own : List (Str × Nat)} {pos : Pos} {wi : TI} {g : TG} {tt : TT} {tk tv : TE} (n0 : dNew o0) (hu : X.A.units + 1 < cLine)
    (calm : X.calm = true) (nod : X.N.Nodup) (src : PI X tg iter wi) (blk : BlkOk X.N X.env.scope scope own)
    (tgt : ∀ (s : Shared) (H : Hp) (C : Addr) (cl : List (Str × Addr)) (fp : List Addr),
      PG (X.blk s H scope (compEnvC scope cl C X.env) fp) tg g)
    (tst : ∀ (s : Shared) (H : Hp) (C : Addr) (cl : List (Str × Addr)) (fp : List Addr),
      PTs (X.blk s H scope (compEnvC scope cl C X.env) fp) ifs tt)
    (key : ∀ (s : Shared) (H : Hp) (C : Addr) (cl : List (Str × Addr)) (fp : List Addr),
      PE (X.blk s H scope (compEnvC scope cl C X.env) fp) kx tk)
    (val : ∀ (s : Shared) (H : Hp) (C : Addr) (cl : List (Str × Addr)) (fp : List Addr),
      PE (X.blk s H scope (compEnvC scope cl C X.env) fp) vx tv)
    (fol : ∀ x, foldedSetIterable iter X.env x = pure x := by intro _; rfl) :
    PE X (.DictComp kx vx [⟨tg, iter, ifs, 0⟩] scope pos) (tDcP o0 wi g tt tk tv (own.map (·.2))) := by
  refine ⟨?_⟩
  intro pins s σ H Q inv pre
  rw [arm_eval_DictComp]
  have free : ∀ y ∈ scope.names, y.2 = .free → ∃ c, X.env.cells.lookup y.1 = some c := by
    intro y hy e
    rcases blk.free y hy e with k | k
    · exact inv.ok.has _ (.inl k)
    · exact inv.ok.has _ (.inr k)
  refine wpAny_comprehension_free (use := none) rfl fol
    (closure_ok free) blk.kind (fun y hy e => by rw [blk.uniq y hy, e]) ?_
  refine thn (src.run pins s σ H _ inv pre) fun xv s1 hx => ?_
  refine thn hx fun itv s2 h2 => ?_
  obtain ⟨it, fp, tn, J, H2, e, inv2, T, st2, f2, q⟩ := h2
  subst e
  refine wpAny_newObj_type ?_
  refine newEnv_comp ?_
  generalize hD : s2.heap.objs.size = D
  have fresh : H2 D = none := by
    rw [← hD]
    exact inv2.hok.fresh (Nat.le_refl _)
  obtain ⟨W, ⟨m0, w0⟩, turn⟩ := q D fresh
  let nb : Obj := { cls := .type "dict", data := .dict #[] }
  obtain ⟨s3, hs3⟩ : ∃ z : Shared, { s2 with heap := s2.heap.push nb } = z := ⟨_, rfl⟩
  have h3 : s3.heap = s2.heap.push nb := by rw [← hs3]
  obtain ⟨H3, hH3⟩ : ∃ z, upd H2 D o0 = z := ⟨_, rfl⟩
  have inv3 : Inv X pins σ H3 s3 := by
    rw [← hs3, ← hH3]
    refine inv2.laid (t' := s2.toks) (fun b o e => Heap.get?_push_of_some _ e)
      (Nat.le_of_eq hD) ?_
    rw [← hD]
    exact dNew_ok n0 s2.heap inv2.big
  have low : ∀ b ∈ fp, b < s2.heap.objs.size := by
    intro b hb
    obtain ⟨o, e, _⟩ := T.obj _ _ st2 b hb
    exact Heap.lt_size e
  have f3 : ∀ b ∈ fp, FpOk X pins H3 b ∧ b < s3.heap.objs.size := by
    intro b hb
    have hlt := low b hb
    have ne : b ≠ D := by
      rw [← hD]
      exact Nat.ne_of_lt hlt
    refine ⟨⟨?_, (f2 b hb).2⟩, ?_⟩
    · rw [← hH3, upd_ne ne]
      exact (f2 b hb).1
    · rw [h3, Heap.size_push]
      exact Nat.lt_succ_of_lt hlt
  have st3 : tn 0 s3.heap := T.keep _ _ _ st2 fun b _ o e => by
    rw [h3]
    exact Heap.get?_push_of_some _ e
  have inv4 := block_start inv3 blk nod f3
  obtain ⟨C0, hC0⟩ : ∃ z, s3.heap.objs.size = z := ⟨_, rfl⟩
  obtain ⟨cl, hcl⟩ : ∃ z, cellsFrom (s3.heap.objs.size + 1) scope.names (cloFrom X.env.cells scope.names []) = z := ⟨_, rfl⟩
  have pg := tgt s3 H3 s3.heap.objs.size cl fp
  have pt := tst s3 H3 s3.heap.objs.size cl fp
  have pk := key s3 H3 s3.heap.objs.size cl fp
  have pv := val s3 H3 s3.heap.objs.size cl fp
  have no3 : ∀ b ∈ fp, H3 b = none := fun b hb => (f3 b hb).1.1
  rw [hcl] at inv4
  obtain ⟨ce, hce⟩ : ∃ z, compEnvC scope cl s3.heap.objs.size X.env = z := ⟨_, rfl⟩
  rw [hce] at inv4 pg pt pk pv
  have cL : ce.locals = s3.heap.objs.size := by
    rw [← hce]
    rfl
  obtain ⟨s4, hs4⟩ : ∃ z : Shared, { s3 with heap := pushCells (s3.heap.push nb) scope.names } = z := ⟨_, rfl⟩
  have hs4' : ({ s3 with heap := pushCells (s3.heap.push { cls := .type "dict", data := .dict #[] }) scope.names } : Shared) = s4 := hs4
  rw [hs4'] at inv4
  have st4 : tn 0 s4.heap := by
    refine T.keep _ _ _ st3 fun b _ o e => ?_
    rw [← hs4]
    exact pushCells_keeps _ _ _ _ (Heap.get?_push_of_some _ e)
  let Xb : Cx := X.blk s3 H3 scope ce fp
  have stat : ∀ {σ5 : L2.St} {H5 : Hp} {s5 : Shared}, Inv Xb [] σ5 H5 s5 →
      (∀ b ∈ fp, H5 b = none) → ∀ b ∈ fp, FpOk Xb [] H5 b := by
    intro σ5 H5 s5 iv hn b hb
    refine ⟨hn b hb, (iv.ok.exf b hb).1, iv.ok.exfs b hb, .inl hb, ?_, ?_⟩
    · exact fun x c e => (iv.ok.exf b hb).2 x c e
    · intro p hp
      have hp2 : p ∈ ([] : List (Addr × Obj)) ++ [] := hp
      exact absurd hp2 (by simp)
  have loop : codeAny (model X.prog X.w) X.A
      (.compLoop (.DictComp kx vx [⟨tg, iter, ifs, 0⟩] scope pos) 0 (.ref it) (.ref D) ce)
      (compPost (model X.prog X.w) X.A X.xe none (EP X pins σ Q) (.ref D) s3.heap.objs.size) s4 := by
    refine compLoop_anyD (fun n s5 => ∃ i H5, Inv Xb [] (L2.wipe σ (own.map (·.2))) H5 s5 ∧
      tn i s5.heap ∧ (∀ b ∈ fp, H5 b = none) ∧ W i n H5) ?_ m0 ⟨0, H3, inv4, st4, no3, ?_⟩
    rotate_left
    · rw [← hH3]
      exact w0
    rintro n s5 ⟨i, H5, iv5, st5, n5, w5⟩
    rcases turn i n H5 w5 with ⟨stop, qq⟩ | ⟨go, Nx, hNx, step⟩
    · have td := T.done Xb rfl rfl rfl calm i [] s5 _ H5
        (fun _ _ => False) iv5 (stat iv5 n5) st5 stop
      refine thnF td fun r s6 ⟨hr, iv6⟩ => ?_
      subst hr
      have iv7 : Inv X pins σ H5 s6 := by
        refine inv3.call' (ch := fp) iv6.os iv6.base iv6.hok iv6.bare ?_
        intro b hb
        obtain ⟨z0, z1, z2, z3, z4, z5⟩ := (f3 b hb).1
        exact ⟨z3, z1, z4, z5⟩
      have nC : H5 s3.heap.objs.size = none := by
        have z : H5 ce.locals = none := iv6.free
        rw [← cL]
        exact z
      obtain ⟨m, hn, _⟩ := iv6.loc
      have hn2 : s6.heap.Ns ce.locals m := hn
      rw [cL] at hn2
      obtain ⟨z0, z1, z2, z3, z4, z5⟩ := inv3.fpOk (Nat.le_refl _) nC
      refine ⟨m, hn2, ?_⟩
      intro h6 sb
      refine ⟨.ref D, H5, iv7.turned (t' := s6.toks) (fun b o hb e => ?_) z0 z1 z3 z4 z5, rfl, qq⟩
      exact (sb.2 b hb).trans e
    · have ti := T.item Xb rfl rfl rfl calm i [] s5 _ H5
        (fun _ _ => False) iv5 (stat iv5 n5) st5 go
      refine thnF ti fun r s6 ⟨u, hr, h6⟩ => ?_
      subst hr
      refine thnF h6 fun _ s7 ⟨x, H7, iv7, r7, y7, st7, n7⟩ => ?_
      have ivp := iv7.pinned (stat iv7 n7) (T.obj _ _ st7)
      refine thnF (pg.run _ s7 _ H7 x u _ ivp r7 (step x H7 y7))
        fun _ s8 ⟨σ8, H8, iv8, hw8, q8⟩ => ?_
      refine thnF (pt.run _ s8 σ8 H8 _ iv8 q8) fun b s9 ⟨H9, iv9, q9⟩ => ?_
      have fin : ∀ {sz : Shared} {Hz : Hp}, Inv Xb ([] ++ pinsAt fp s7.heap) σ8 Hz sz → Nx Hz →
          ∃ m, m < n ∧ ∃ i Hz, Inv Xb [] (L2.wipe σ (own.map (·.2))) Hz sz ∧
            tn i sz.heap ∧ (∀ b ∈ fp, Hz b = none) ∧ W i m Hz := by
        intro sz Hz iv nx
        obtain ⟨m2, hm, w2⟩ := hNx Hz nx
        have pin : ∀ b ∈ fp, ∀ o, s7.heap.get? b = some o → sz.heap.get? b = some o ∧ Hz b = none := by
          intro b hb o e
          have mem : (b, o) ∈ pinsAt fp s7.heap := mem_pinsAt hb e
          obtain ⟨z1, z2, _⟩ := iv.pin (b, o) (List.mem_append_right _ (List.mem_append_right _ mem))
          exact ⟨z1, z2⟩
        have hl : (L2.wipe σ (own.map (·.2))).length = σ8.length := by
          rw [← hw8, wipe_length]
        refine ⟨m2, hm, i + 1, Hz, (iv.unpinned (pins := [])).weak hl (fun j v e => ?_), ?_, ?_, w2⟩
        · rw [← hw8] at e
          exact (wipe_some e).1
        · exact T.keep _ _ _ st7 fun b hb o e => (pin b hb o e).1
        · intro b hb
          obtain ⟨o, e, _⟩ := T.obj _ _ st7 b hb
          exact (pin b hb o e).2
      cases b with
      | false =>
        rw [if_neg Bool.false_ne_true] at q9 ⊢
        exact fin iv9 q9
      | true =>
        rw [if_pos rfl] at q9 ⊢
        refine thnF (pk.run _ s9 σ8 H9 _ iv9 q9) fun z s10 ⟨yk, H10, iv10, r10, q10⟩ => ?_
        refine thnF (pv.run _ s10 σ8 H10 _ iv10 q10) fun z2 s11 ⟨yv, H11, iv11, r11, H12, pu, nx⟩ => ?_
        refine dset_put (X := Xb) hu iv11 pu r10 r11 fun s12 iv12 => ?_
        exact fin iv12 nx
  have core := codeAny_compStart_dict loop (T.self X.A 0 _ _ _ st4 loop)
  rw [← hs4, ← hce, ← hcl, ← hs3] at core
  exact core
end
end BD
set_option Elab.async false
set_option linter.all false
set_option maxRecDepth 100000
set_option maxHeartbeats 4000000
/-! BD: {k: v for .. in ..} (made by mkl.py out of BDn). -/
namespace BD
open PySem PySem.Spec PyProof.Rows L2
def dcL (ct : CT) (tt : DT) (dk dv : DV) (vs : List Nat) (done : D → List Cell → Prop) : List D → D → List Cell → Prop
  | [], acc, E => done acc E
  | x :: r, acc, E => putCT ct x E fun E1 => tt E1 fun b E2 => if b = true then dk E2 fun y E3 => dv E3 fun z E4 => dPut acc y z fun acc' => dcL ct tt dk dv vs done r acc' (wipeE E4 vs) else dcL ct tt dk dv vs done r acc (wipeE E2 vs)
def dDc (d0 : D) (src : DI) (ct : CT) (vs : List Nat) (tt : DT) (dk dv : DE) : DE := fun E Q => src E fun items fin E1 => dcL ct tt (dFz dk) (dFz dv) vs (fun acc E2 => fin (restore E1 E2 vs) fun E3 => Q (.fr acc) E3) items d0 (wipeE E1 vs)
def isNew (o0 : HO) (d0 : D) : Prop := (o0 = .dK [] ∧ d0 = .dk []) ∨ (o0 = .dT [] ∧ d0 = .dt [])
theorem isNew.dnew {o0 : HO} {d0 : D} (n : isNew o0 d0) : dNew o0 := n.elim (fun z => .inl z.1) fun z => .inr z.1
section
variable {X : Cx} {kt : Bool} {K : PySem.W.Frag} {S H S' H' S1 H1 S2 H2 S0 H0 S3 H3 : Hp} {σ σ1 σ2 σ0 : L2.St} {E E' E1 E2 E0 E3 : List Cell} {v : V} {r : R} {i : Nat} {d : D} {e : Expr} {dk dv : DE} {dt : DT} {di : DI} {tg iter : Expr} {pos p : Pos}
theorem isNew.own {o0 : HO} {d0 : D} (n : isNew o0 d0) : Own kt K S o0 d0 := by
  rcases n with ⟨rfl, rfl⟩ | ⟨rfl, rfl⟩
  · exact ⟨[], rfl, .nil⟩
  · exact ⟨[], rfl, .nil⟩
theorem own_put {o : HO} {kd yd zd : D} {y z : V} {a : Addr} {k : D → Prop} (e : Same S H) (ho : Own kt K S o kd) (hH : H a = some o) (hy : Rp kt K S y yd) (hz : Rp kt K S z zd) (h : dPut kd yd zd k) :
    ∃ o2 kd2, DPut H a y z (upd H a o2) ∧ Own kt K S o2 kd2 ∧ k kd2 := by
  cases kd with
  | dk kds =>
    obtain ⟨q, c1, c2, c3⟩ := h
    obtain ⟨kvs, rfl, r⟩ := ho
    have pr := rpk_pr r
    exact ⟨_, .dk (putD kds q zd), .inl ⟨kvs, q, hH, keyOf_rp c1 hy, by rw [pr.length]; exact c2, rfl⟩, ⟨_, rfl, pr_rpk (by rw [put_putK]; exact pr.put q hz)⟩, c3⟩
  | dt kds =>
    obtain ⟨q, c1, c2, c3⟩ := h
    obtain ⟨kvs, rfl, r⟩ := ho
    have pr := rpt_pr r
    obtain ⟨b, rfl, hb⟩ := tkey_rp e c1 hy
    exact ⟨_, .dt (putD kds q zd), .inr ⟨kvs, q, b, hH, rfl, hb, by rw [pr.length]; exact c2, rfl⟩, ⟨_, rfl, pr_rpt (by rw [put_putK]; exact pr.put q hz)⟩, c3⟩
  | _ => exact (show False from h).elim
theorem restored_dc {vs : List Nat} {Q : R → List Cell → Prop} {Q' : VK} {fin : DFin} {D_ : Addr} {acc : D} (I0 : SI kt K S H σ E) (pr : Prot kt K S H σ E S1 H1 E1 fin) (hD1 : H1 D_ = none)
    (I3 : SI kt K S3 H3 (L2.wipe σ vs) E3) (F : Fr S1 H1 (ownA (L2.wipe σ vs) (wipeE E1 vs)) S3 H3 (ownA (L2.wipe σ vs) E3)) (c : ∀ j, CellStep (nth (wipeE E1 vs) j) (nth E3 j))
    (hD : RepR kt K S3 H3 (L2.wipe σ vs) E3 (.ref D_) (.fr acc)) (hf : fin (restore E1 E3 vs) fun E4 => Q (.fr acc) E4)
    (k : ∀ S' H' E' v r, Ev kt K S H σ E S' H' E' → RepR kt K S' H' σ E' v r → New H v r → Q r E' → Q' v H') : Q' (.ref D_) H3 := by
  obtain ⟨g, cc⟩ := Go.restored pr.si I3 F c
  obtain ⟨E4, g4, c4, h4⟩ := pr.back _ _ _ _ g _ hf
  have hD0 : H D_ = none := pr.fr.back hD1
  obtain ⟨p, o, e1, a1, a2, a3, a4⟩ := hD
  cases e1
  refine k S3 H3 E4 _ (.fr acc) ⟨g4.si, g4.fr, c4 cc⟩ ⟨D_, o, rfl, a1, fun z => ?_, a3, a4⟩ (fun p hp => by cases hp; exact hD0) h4
  obtain ⟨j, x, hj, hσ⟩ := z
  obtain ⟨y, hy⟩ := (c4 cc j).own_of hj
  exact ownA_alive I0 ⟨j, y, hy, hσ⟩ hD0
theorem dc_lk {o0 : HO} {d0 : D} {wi : TI} {ct : CT} {vs : List Nat} (n0 : isNew o0 d0) (li : LkI kt K wi di) (hct : ∀ j ∈ ct.slots, j ∈ vs) : LkE kt K (tDcP o0 wi (gCT K ct) (tOfT kt K dt) (tOfV kt K (dFz dk)) (tOfV kt K (dFz dv)) vs) (dDc d0 di ct vs dt dk dv) := by
  intro S H σ E Q Q' I h k
  refine li S H σ E _ _ I h fun S1 H1 E1 J items fin pr so h1 => ?_
  intro D_ hD1
  have Ib := pr.si.wipe vs
  have sub : ∀ a, ownA (L2.wipe σ vs) (wipeE E1 vs) a → ownA σ E1 a := fun a z => by
    obtain ⟨j, y, hj, g1, g2⟩ := ownA_wipe z
    exact ⟨j, y, g1, g2⟩
  have cov : (wipeE E1 vs).length = E1.length := wipeE_len _ _
  let Inv3 (i : Nat) (H3 : Hp) : Prop := ∃ S3 E3 acc, SI kt K S3 H3 (L2.wipe σ vs) E3 ∧ Fr S1 H1 (ownA (L2.wipe σ vs) (wipeE E1 vs)) S3 H3 (ownA (L2.wipe σ vs) E3) ∧ (∀ j, CellStep (nth (wipeE E1 vs) j) (nth E3 j)) ∧
    RepR kt K S3 H3 (L2.wipe σ vs) E3 (.ref D_) (.fr acc) ∧ dcL ct dt (dFz dk) (dFz dv) vs (fun acc E2 => fin (restore E1 E2 vs) fun E3 => Q (.fr acc) E3) (items.drop i) acc E3
  refine ⟨fun i m H3 => m = items.length - i ∧ i ≤ items.length ∧ Inv3 i H3, ⟨items.length, by simp, Nat.zero_le _, S1, wipeE E1 vs, d0, Ib.alloc hD1, Fr.refl.updNew hD1, fun _ => .refl _, ⟨D_, _, rfl, Ib.none hD1, fun z => ownA_alive Ib z hD1, upd_same, n0.own⟩, h1⟩, ?_⟩
  rintro i m H3 ⟨rfl, hi', S3, E3, acc, I3, F3, c3, hD3, w3⟩
  have F3' : Fr S1 H1 (ownA σ E1) S3 H3 (ownA (L2.wipe σ vs) E3) := F3.weak sub
  by_cases hlt : i < items.length
  · refine .inr ⟨so.goes S3 H3 _ E3 I3 F3' i hlt, Inv3 (i + 1), fun H' z => ⟨items.length - (i + 1), by omega, rfl, hlt, z⟩, fun x H4 y => ?_⟩
    obtain ⟨S4, dx, hd, e4, r4⟩ := so.yields S3 H3 _ E3 I3 F3' i x H4 hlt y
    have hdrop : items.drop i = dx :: items.drop (i + 1) := by
      rw [List.drop_eq_getElem_cons hlt]
      have : items[i] = dx := by rw [List.getElem?_eq_getElem hlt] at hd; exact Option.some.inj hd
      rw [this]
    rw [hdrop] at w3
    have un3 : ∀ j, j ∈ vs → nth E3 j = .un := fun j hj => by
      have := c3 j
      rw [nth_wipe, if_pos hj] at this
      exact this
    refine gCT_ok (vs := vs) hct e4.si r4 w3 fun σ5 E5 f5 h5 => ⟨f5.wip.trans (wipe_wipe σ vs), ?_⟩
    have same5 : ∀ a, ownA σ5 E5 a → ownA (L2.wipe σ vs) E3 a := fun a ⟨j, y, hj, hσ⟩ => by
      by_cases hm : j ∈ vs
      · rcases f5.ins j hm with z | ⟨z, hz⟩
        · rw [z, un3 j hm] at hj; rcases hj with q | q <;> cases q
        · rw [hz] at hj; rcases hj with q | q <;> cases q
      · rw [(f5.out j hm).2] at hj
        rw [(f5.out j hm).1] at hσ
        exact ⟨j, y, hj, hσ⟩
    have F5 : Fr S1 H1 (ownA (L2.wipe σ vs) (wipeE E1 vs)) S4 H4 (ownA σ5 E5) := (F3.trans e4.fr).less same5
    have hD5 : RepR kt K S4 H4 σ5 E5 (.ref D_) (.fr acc) := by
      obtain ⟨p, o, q1, q2, q3, q4, q5⟩ := hD3.step e4
      exact ⟨p, o, q1, q2, fun z => q3 (same5 p z), q4, q5⟩
    refine ⟨S4, E5, _, f5.si, h5, fun S6 H6 E6 b e6 h6 => ?_⟩
    have fin7 : ∀ S7 H7 E7 acc', Ev kt K S4 H4 σ5 E5 S7 H7 E7 → ∀ H8, SI kt K S7 H8 σ5 E7 → (H8 = H7 ∨ ∃ o, H8 = upd H7 D_ o) → RepR kt K S7 H8 σ5 E7 (.ref D_) (.fr acc') → dcL ct dt (dFz dk) (dFz dv) vs (fun acc E2 => fin (restore E1 E2 vs) fun E3 => Q (.fr acc) E3) (items.drop (i + 1)) acc' (wipeE E7 vs) → Inv3 (i + 1) H8 := fun S7 H7 E7 acc' e7 H8 I8 hH rD w => by
      have hw : L2.wipe σ5 vs = L2.wipe σ vs := f5.wip.trans (wipe_wipe σ vs)
      have I9 := I8.wipe vs
      rw [hw] at I9
      have less : ∀ a, ownA (L2.wipe σ vs) (wipeE E7 vs) a → ownA σ5 E7 a := fun a ⟨j, y, hj, hσ⟩ => by
        rw [nth_wipe] at hj
        by_cases hm : j ∈ vs
        · rw [if_pos hm] at hj; rcases hj with q | q <;> cases q
        · rw [if_neg hm] at hj
          rw [← hw, get_wipe hm] at hσ
          exact ⟨j, y, hj, hσ⟩
      have F8 : Fr S1 H1 (ownA (L2.wipe σ vs) (wipeE E1 vs)) S7 H8 (ownA (L2.wipe σ vs) (wipeE E7 vs)) := by
        rcases hH with rfl | ⟨o, rfl⟩
        · exact (F5.trans e7.fr).less less
        · exact ((F5.trans e7.fr).less less).updNew hD1
      refine ⟨S7, wipeE E7 vs, acc', I9, F8, fun j => ?_, ?_, w⟩
      · rw [nth_wipe, nth_wipe]
        by_cases hm : j ∈ vs
        · rw [if_pos hm, if_pos hm]; exact .refl _
        · rw [if_neg hm, if_neg hm]
          have q1 := c3 j
          rw [nth_wipe, if_neg hm] at q1
          have q2 := e7.cells j
          rw [(f5.out j hm).2] at q2
          exact q1.trans q2
      · obtain ⟨p, o, q1, q2, q3, q4, q5⟩ := rD
        exact ⟨p, o, q1, q2, fun z => q3 (less p z), q4, q5⟩
    cases b with
    | false =>
      rw [if_neg Bool.false_ne_true] at h6
      dsimp only
      rw [if_neg Bool.false_ne_true]
      exact fin7 S6 H6 E6 acc e6 H6 e6.si (.inl rfl) (hD5.step e6) h6
    | true =>
      rw [if_pos rfl] at h6
      dsimp only
      rw [if_pos rfl]
      refine ⟨S6, E6, _, e6.si, h6, fun S61 H61 E61 yv yd e61 ry h61 => ?_⟩
      refine ⟨S61, E61, _, e61.si, h61, fun S7 H7 E7 zv zd e7 rz h7 => ?_⟩
      have e67 := (e6.trans e61).trans e7
      obtain ⟨p, o, q1, q2, q3, q4, q5⟩ := hD5.step e67
      cases q1
      obtain ⟨o2, acc2, pu, ow, hk⟩ := own_put e7.si.ex q5 q4 (ry.mono (le_of e7.fr.ex)) rz h7
      refine ⟨_, pu, ?_⟩
      have I8 : SI kt K S7 (upd H7 D_ o2) σ5 E7 := e67.si.updT q2 q3 fun j x w hj hσ hw => by
        subst hw
        have hjm : j ∉ vs := fun hm => by
          have := e67.cells j
          rw [hj] at this
          have z := this.ro_of
          rcases f5.ins j hm with z' | ⟨y, z'⟩
          · rw [z', un3 j hm] at z; cases z
          · rw [z'] at z; cases z
        have h5' : nth E5 j = .ro x := by have := e67.cells j; rw [hj] at this; exact this.ro_of
        rw [(f5.out j hjm).2] at h5'
        have hb : nth (wipeE E1 vs) j = .ro x := by have := c3 j; rw [h5'] at this; exact this.ro_of
        rw [(f5.out j hjm).1] at hσ
        obtain ⟨w, b1, b2⟩ := Ib.ro j x hb
        rw [hσ] at b1; cases b1
        rcases b2 with b2 | ⟨p, u, e1, b3, _, _⟩
        · exact b2.mono (le_of ((F5.ex).trans e67.fr.ex))
        · cases e1
          rcases b3 with b3 | ⟨⟨_, b3⟩, _⟩ <;> (rw [hD1] at b3; cases b3)
      exact fin7 S7 H7 E7 acc2 e67 _ I8 (.inr ⟨_, rfl⟩) ⟨D_, _, rfl, q2, q3, upd_same, ow⟩ hk
  · have ei : i = items.length := by omega
    subst ei
    rw [List.drop_length] at w3
    exact .inl ⟨so.stops S3 H3 _ E3 I3 F3', restored_dc I pr hD1 I3 F3 c3 hD3 w3 k⟩
theorem se_dc {o0 : HO} {d0 : D} {kx vx : Expr} {ifs : List Expr} {scope : Scope} {own : List (Str × Nat)} {ct : CT} (n0 : isNew o0 d0) (hu : X.A.units + 1 < cLine) (hc : X.calm = true) (hN : X.N.Nodup) (hi : SI_ X kt tg iter di) (ok : BlkOk X.N X.env.scope scope own) (hct : ∀ j ∈ ct.slots, j ∈ own.map (·.2))
    (hg : ∀ (s : Shared) (H : Hp) (C : Addr) (cl : List (Str × Addr)) (fp : List Addr), PG (X.blk s H scope (compEnvC scope cl C X.env) fp) tg (gCT X.K ct)) (ht : ∀ (s : Shared) (H : Hp) (C : Addr) (cl : List (Str × Addr)) (fp : List Addr), STs (X.blk s H scope (compEnvC scope cl C X.env) fp) kt ifs dt)
    (hk : ∀ (s : Shared) (H : Hp) (C : Addr) (cl : List (Str × Addr)) (fp : List Addr), SE (X.blk s H scope (compEnvC scope cl C X.env) fp) kt kx dk) (hv : ∀ (s : Shared) (H : Hp) (C : Addr) (cl : List (Str × Addr)) (fp : List Addr), SE (X.blk s H scope (compEnvC scope cl C X.env) fp) kt vx dv)
    (hs : ∀ x, foldedSetIterable iter X.env x = pure x := by intro _; rfl) :
    SE X kt (.DictComp kx vx [⟨tg, iter, ifs, 0⟩] scope pos) (dDc d0 di ct (own.map (·.2)) dt dk dv) := by
  obtain ⟨wi, pi, li⟩ := hi.ex
  exact ⟨_, pe_dcP (o0 := o0) (tt := tOfT kt X.K dt) (tk := tOfV kt X.K (dFz dk)) (tv := tOfV kt X.K (dFz dv)) n0.dnew hu hc hN pi ok hg (fun s H C cl fp => (ht s H C cl fp).canon) (fun s H C cl fp => (fz (hk s H C cl fp)).canon) (fun s H C cl fp => (fz (hv s H C cl fp)).canon) hs, dc_lk n0 li hct⟩
end
end BD
set_option Elab.async false
set_option linter.all false
set_option maxRecDepth 100000
set_option maxHeartbeats 4000000
/-! BD: sorted of tuples that stay keys. -/
namespace BD
open PySem PySem.Spec PyProof.Rows L2
def leW (a b : D) : Bool := leD (wk a) (wk b)
def sortW (ds : List D) : List D := ds.mergeSort leW
def dSortK (d : D) (Q : R → Prop) : Prop := match d with
  | .lst ds => SOk (ds.map wk) ∧ Q (.fr (.lst (sortW ds)))
  | _ => False
section
variable {X : Cx} {K : PySem.W.Frag} {S H : Hp}
def fW (b : V × D) : V × D := (b.1, wk b.2)
theorem sortW_map (bs : List (V × D)) : ((bs.map fW).mergeSort (PySem.W.dataLe false fun b => py b.2)).map (·.1) = (bs.mergeSort fun a b => leW a.2 b.2).map (·.1) := by
  rw [← List.map_mergeSort (r := fun a b => leW a.2 b.2) (f := fW) (l := bs), List.map_map]
  · rfl
  · intro a _ b _
    rfl
theorem sortW_snd (bs : List (V × D)) : (bs.mergeSort fun a b => leW a.2 b.2).map (·.2) = sortW (bs.map (·.2)) := by
  unfold sortW
  rw [List.map_mergeSort (s := leW)]
  intro a _ b _
  rfl
theorem cb_sortK (hu : X.A.units + 65 < cLine) : CallB X true (.builtin "sorted") (d1 dSortK) := ⟨_, cr_sortedB hu, cd_one fun S H v d Q Q' e w h o => by
  cases d with
  | lst xs =>
    obtain ⟨p, vs, rfl, hp, r⟩ := w.lst e
    obtain ⟨bs, rfl, rfl, hb⟩ := zip_rpl r
    obtain ⟨ok, q⟩ := h
    have e1 : (bs.map fW).map (·.1) = bs.map (·.1) := by rw [List.map_map]; rfl
    have e2 : (bs.map fW).map (·.2) = (bs.map (·.2)).map wk := by rw [List.map_map, List.map_map]; rfl
    refine ⟨p, bs.map fW, rfl, by rw [e1]; exact .inl (.of hp), fun b hb' => ?_, by rw [e2]; exact ok, fun l hl => ?_⟩
    · obtain ⟨c, hc, rfl⟩ := List.mem_map.mp hb'
      have ho : okd 50 (wk c.2) = true := List.all_eq_true.mp ok.ok _ (List.mem_map_of_mem (List.mem_map_of_mem hc))
      exact dp_rp e 50 _ _ ho (hb c hc).wk
    · rw [sortW_map]
      rw [← sortW_snd] at q
      exact o.lst hl (rpl_zip fun b hb' => hb b ((List.mergeSort_perm bs _).mem_iff.mp hb')) q
  | _ => exact (show False from h).elim⟩
end
end BD
set_option linter.all false
/-! k96: words of exchanges, in plain Lean. -/
namespace BL
/-- the row with the bells at a place and the next one exchanged -/
def sw (l : List Nat) (p : Nat) : List Nat := l.take (p - 1) ++ (match l.drop (p - 1) with | x :: y :: r => y :: x :: r | r => r)
theorem split_at {l : List Nat} {p : Nat} (h1 : 1 ≤ p) (h2 : p < l.length) : ∃ a x y b, l = a ++ x :: y :: b ∧ a.length = p - 1 := by
  have h3 : l.drop (p - 1) = l[p - 1] :: l.drop p := by
    have := List.drop_eq_getElem_cons (l := l) (i := p - 1) (by omega)
    rw [show p - 1 + 1 = p by omega] at this
    exact this
  have h4 : l.drop p = l[p] :: l.drop (p + 1) := List.drop_eq_getElem_cons (by omega)
  refine ⟨l.take (p - 1), l[p - 1], l[p], l.drop (p + 1), ?_, by rw [List.length_take]; omega⟩
  rw [← h4, ← h3, List.take_append_drop]
theorem sw_app (a b : List Nat) (x y : Nat) : sw (a ++ x :: y :: b) (a.length + 1) = a ++ y :: x :: b := by
  unfold sw
  rw [Nat.add_sub_cancel, List.take_left' rfl, List.drop_left' rfl]
theorem sw_perm {l : List Nat} {p : Nat} (h1 : 1 ≤ p) (h2 : p < l.length) : (sw l p).Perm l := by
  obtain ⟨a, x, y, b, rfl, ha⟩ := split_at h1 h2
  rw [show p = a.length + 1 by omega, sw_app]
  exact List.Perm.append_left a (List.Perm.swap x y b)
theorem sw_len {l : List Nat} {p : Nat} (h1 : 1 ≤ p) (h2 : p < l.length) : (sw l p).length = l.length := (sw_perm h1 h2).length_eq
def inv : List Nat → Nat
  | [] => 0
  | x :: r => (r.filter fun y => decide (y < x)).length + inv r
def cr (a c : List Nat) : Nat := (a.map fun x => (c.filter fun y => decide (y < x)).length).sum
theorem cr_perm {a c d : List Nat} (h : c.Perm d) : cr a c = cr a d := by
  unfold cr
  congr 1
  refine List.map_congr_left fun x _ => (h.filter _).length_eq
theorem inv_app : ∀ a c : List Nat, inv (a ++ c) = inv a + inv c + cr a c
  | [], c => by simp [inv, cr]
  | x :: a, c => by
    show ((a ++ c).filter _).length + inv (a ++ c) = _
    rw [List.filter_append, List.length_append, inv_app a c]
    show _ = (a.filter _).length + inv a + inv c + ((c.filter _).length + cr a c)
    omega
theorem inv_two {x y : Nat} {b : List Nat} (h : y < x) : inv (x :: y :: b) = inv (y :: x :: b) + 1 := by
  simp only [inv]
  rw [List.filter_cons_of_pos (by exact decide_eq_true h), List.filter_cons_of_neg (by simp; omega), List.length_cons]
  omega
theorem inv_down {a b : List Nat} {x y : Nat} (h : y < x) : inv (a ++ x :: y :: b) = inv (a ++ y :: x :: b) + 1 := by
  rw [inv_app, inv_app, inv_two h, cr_perm (List.Perm.swap y x b)]
  omega
/-- what stands at a place and at the next one -/
def lo (l : List Nat) (p : Nat) : Nat := l.getD (p - 1) 0
def hi (l : List Nat) (p : Nat) : Nat := l.getD p 0
theorem lo_app (a b : List Nat) (x y : Nat) : lo (a ++ x :: y :: b) (a.length + 1) = x := by
  unfold lo
  rw [Nat.add_sub_cancel, List.getD_eq_getElem?_getD, List.getElem?_append_right (Nat.le_refl _), Nat.sub_self]; rfl
theorem hi_app (a b : List Nat) (x y : Nat) : hi (a ++ x :: y :: b) (a.length + 1) = y := by
  unfold hi
  rw [List.getD_eq_getElem?_getD, List.getElem?_append_right (by omega), Nat.add_sub_cancel_left]; rfl
theorem inv_sw {l : List Nat} {p : Nat} (h1 : 1 ≤ p) (h2 : p < l.length) : (hi l p < lo l p → inv l = inv (sw l p) + 1) ∧ (lo l p < hi l p → inv (sw l p) = inv l + 1) := by
  obtain ⟨a, x, y, b, rfl, ha⟩ := split_at h1 h2
  rw [show p = a.length + 1 by omega, sw_app, lo_app, hi_app]
  exact ⟨fun h => inv_down h, fun h => inv_down h⟩
theorem lo_ne_hi {l : List Nat} {p : Nat} (hn : l.Nodup) (h1 : 1 ≤ p) (h2 : p < l.length) : lo l p ≠ hi l p := by
  obtain ⟨a, x, y, b, rfl, ha⟩ := split_at h1 h2
  rw [show p = a.length + 1 by omega, lo_app, hi_app]
  intro e
  subst e
  have := (List.nodup_append.mp hn).2.1
  exact (List.nodup_cons.mp this).1 List.mem_cons_self
theorem inv_range : ∀ (n s : Nat), inv (List.range' s n) = 0
  | 0, _ => rfl
  | n + 1, s => by
    rw [List.range'_succ]
    show ((List.range' (s + 1) n).filter _).length + inv (List.range' (s + 1) n) = 0
    rw [inv_range n (s + 1)]
    have : (List.range' (s + 1) n).filter (fun y => decide (y < s)) = [] := by
      rw [List.filter_eq_nil_iff]
      intro y hy
      have := (List.mem_range'_1.mp hy).1
      simp; omega
    rw [this]; rfl
/-! rows -/
def rnd (n : Nat) : List Nat := List.range' 1 n
def Row (n : Nat) (l : List Nat) : Prop := l.Perm (rnd n)
theorem Row.len {n : Nat} {l : List Nat} (h : Row n l) : l.length = n := by rw [h.length_eq]; exact List.length_range'
theorem Row.nd {n : Nat} {l : List Nat} (h : Row n l) : l.Nodup := h.nodup_iff.mpr List.nodup_range'
theorem Row.mem {n : Nat} {l : List Nat} (h : Row n l) {k : Nat} : k ∈ l ↔ 1 ≤ k ∧ k ≤ n := by
  rw [h.mem_iff]
  unfold rnd
  rw [List.mem_range'_1]
  omega
theorem Row.rnd (n : Nat) : Row n (BL.rnd n) := List.Perm.refl _
theorem Row.sw {n : Nat} {l : List Nat} (h : Row n l) {p : Nat} (h1 : 1 ≤ p) (h2 : p < n) : Row n (sw l p) := (sw_perm h1 (by rw [h.len]; exact h2)).trans h
def Wd (n : Nat) (t : List Nat) : Prop := ∀ p ∈ t, 1 ≤ p ∧ p < n
def mdF (l t : List Nat) : List Nat := t.foldl sw l
def md (n : Nat) (t : List Nat) : List Nat := mdF (rnd n) t
theorem mdF_row {n : Nat} : ∀ {t l : List Nat}, Wd n t → Row n l → Row n (mdF l t)
  | [], _, _, h => h
  | p :: t, l, w, h => mdF_row (t := t) (fun q hq => w q (List.mem_cons_of_mem _ hq)) (h.sw (w p List.mem_cons_self).1 (w p List.mem_cons_self).2)
theorem mdF_app (l t u : List Nat) : mdF l (t ++ u) = mdF (mdF l t) u := List.foldl_append
theorem mdF_even {n : Nat} : ∀ {t l : List Nat}, Wd n t → Row n l → ∃ e f, inv (mdF l t) + 2 * e = inv l + t.length ∧ inv (mdF l t) + t.length = inv l + 2 * f
  | [], _, _, h => ⟨0, 0, rfl, rfl⟩
  | p :: t, l, w, h => by
    have hp := w p List.mem_cons_self
    have hp2 : p < l.length := by rw [h.len]; exact hp.2
    obtain ⟨e, f, he, hf⟩ := mdF_even (t := t) (fun q hq => w q (List.mem_cons_of_mem _ hq)) (h.sw hp.1 hp.2)
    obtain ⟨s1, s2⟩ := inv_sw hp.1 hp2
    have hne := lo_ne_hi h.nd hp.1 hp2
    show ∃ e f, inv (mdF (sw l p) t) + 2 * e = inv l + (t.length + 1) ∧ inv (mdF (sw l p) t) + (t.length + 1) = inv l + 2 * f
    by_cases c : hi l p < lo l p
    · exact ⟨e + 1, f, by have := s1 c; omega, by have := s1 c; omega⟩
    · exact ⟨e, f + 1, by have := s2 (by omega); omega, by have := s2 (by omega); omega⟩
theorem md_even {n : Nat} {t : List Nat} (w : Wd n t) : ∃ e, t.length = inv (md n t) + 2 * e := by
  obtain ⟨e, f, he, hf⟩ := mdF_even w (Row.rnd n)
  have : inv (rnd n) = 0 := inv_range n 1
  unfold md
  exact ⟨e, by omega⟩
/-! two bells exchanged wherever they stand -/
def vs1 (a b c : Nat) : Nat := if c = a then b else if c = b then a else c
def vsw (a b : Nat) (l : List Nat) : List Nat := l.map (vs1 a b)
theorem vsw_sw (a b : Nat) {l : List Nat} {p : Nat} (h1 : 1 ≤ p) (h2 : p < l.length) : sw (vsw a b l) p = vsw a b (sw l p) := by
  obtain ⟨u, x, y, v, rfl, ha⟩ := split_at h1 h2
  have hu : p = u.length + 1 := by omega
  have hu2 : p = (u.map (vs1 a b)).length + 1 := by rw [List.length_map]; exact hu
  unfold vsw
  rw [List.map_append, List.map_cons, List.map_cons]
  conv => lhs; rw [hu2]
  rw [sw_app, hu, sw_app, List.map_append, List.map_cons, List.map_cons]
theorem vs1_out {a b c : Nat} (h1 : c ≠ a) (h2 : c ≠ b) : vs1 a b c = c := by unfold vs1; rw [if_neg h1, if_neg h2]
theorem vsw_out {a b : Nat} : ∀ {l : List Nat}, a ∉ l → b ∉ l → vsw a b l = l
  | [], _, _ => rfl
  | c :: l, h1, h2 => by
    show vs1 a b c :: vsw a b l = _
    rw [vs1_out (fun e => h1 (by rw [← e]; exact List.mem_cons_self)) (fun e => h2 (by rw [← e]; exact List.mem_cons_self)), vsw_out (fun e => h1 (List.mem_cons_of_mem _ e)) (fun e => h2 (List.mem_cons_of_mem _ e))]
theorem sw_vsw {l : List Nat} {p a b : Nat} (hn : l.Nodup) (h1 : 1 ≤ p) (h2 : p < l.length) (h : (lo l p = a ∧ hi l p = b) ∨ (lo l p = b ∧ hi l p = a)) : sw l p = vsw a b l := by
  obtain ⟨u, x, y, v, rfl, ha⟩ := split_at h1 h2
  rw [show p = u.length + 1 by omega, lo_app, hi_app] at h
  rw [show p = u.length + 1 by omega, sw_app]
  unfold vsw
  rw [List.map_append, List.map_cons, List.map_cons]
  obtain ⟨n1, n2, n3⟩ := List.nodup_append.mp hn
  obtain ⟨m1, m2⟩ := List.nodup_cons.mp n2
  obtain ⟨k1, k2⟩ := List.nodup_cons.mp m2
  have hxy : x ≠ y := fun e => m1 (by rw [e]; exact List.mem_cons_self)
  have hu : ∀ c, c = x ∨ c = y → c ∉ u := fun c hc hm => n3 c hm c (by rcases hc with rfl | rfl <;> simp) rfl
  have hv : ∀ c, c = x ∨ c = y → c ∉ v := fun c hc hm => by
    rcases hc with rfl | rfl
    · exact m1 (List.mem_cons_of_mem _ hm)
    · exact k1 hm
  rcases h with ⟨rfl, rfl⟩ | ⟨rfl, rfl⟩
  · rw [show u.map (vs1 x y) = u from vsw_out (hu x (.inl rfl)) (hu y (.inr rfl)), show v.map (vs1 x y) = v from vsw_out (hv x (.inl rfl)) (hv y (.inr rfl))]
    simp [vs1, hxy, hxy.symm]
  · rw [show u.map (vs1 y x) = u from vsw_out (hu y (.inr rfl)) (hu x (.inl rfl)), show v.map (vs1 y x) = v from vsw_out (hv y (.inr rfl)) (hv x (.inl rfl))]
    simp [vs1, hxy, hxy.symm]
theorem vsw_vsw {a b : Nat} (l : List Nat) : vsw a b (vsw a b l) = l := by
  unfold vsw
  rw [List.map_map]
  conv => rhs; rw [← List.map_id l]
  refine List.map_congr_left fun c _ => ?_
  show vs1 a b (vs1 a b c) = c
  unfold vs1
  by_cases h1 : c = a
  · by_cases h2 : b = a
    · simp [h1, h2]
    · simp [h1, h2]
  · by_cases h2 : c = b
    · simp [h1, h2]
    · simp [h1, h2]
theorem vsw_len (a b : Nat) (l : List Nat) : (vsw a b l).length = l.length := List.length_map _
theorem vsw_mdF (a b n : Nat) : ∀ {t l : List Nat}, Wd n t → Row n l → mdF (vsw a b l) t = vsw a b (mdF l t)
  | [], _, _, _ => rfl
  | p :: t, l, w, h => by
    have hp := w p List.mem_cons_self
    show mdF (sw (vsw a b l) p) t = vsw a b (mdF (sw l p) t)
    rw [vsw_sw a b hp.1 (by rw [h.len]; exact hp.2)]
    exact vsw_mdF a b n (fun q hq => w q (List.mem_cons_of_mem _ hq)) (h.sw hp.1 hp.2)
/-- without two letters that exchange the same two bells the row is the same -/
theorem del_two {n : Nat} {t u v l : List Nat} {p q a b : Nat} (w : Wd n (t ++ p :: u ++ q :: v)) (h : Row n l)
    (hp : (lo (mdF l t) p = a ∧ hi (mdF l t) p = b) ∨ (lo (mdF l t) p = b ∧ hi (mdF l t) p = a))
    (hq : (lo (mdF l (t ++ p :: u)) q = a ∧ hi (mdF l (t ++ p :: u)) q = b) ∨ (lo (mdF l (t ++ p :: u)) q = b ∧ hi (mdF l (t ++ p :: u)) q = a)) :
    mdF l (t ++ u ++ v) = mdF l (t ++ p :: u ++ q :: v) := by
  have wt : Wd n t := fun c hc => w c (by simp [hc])
  have wu : Wd n u := fun c hc => w c (by simp [hc])
  have wp : 1 ≤ p ∧ p < n := w p (by simp)
  have wq : 1 ≤ q ∧ q < n := w q (by simp)
  have r1 := mdF_row wt h
  have e1 : sw (mdF l t) p = vsw a b (mdF l t) := sw_vsw r1.nd wp.1 (by rw [r1.len]; exact wp.2) hp
  have e2 : mdF l (t ++ p :: u) = vsw a b (mdF l (t ++ u)) := by
    rw [mdF_app, mdF_app]
    show mdF (sw (mdF l t) p) u = _
    rw [e1, vsw_mdF a b n wu r1]
  have r2 : Row n (mdF l (t ++ p :: u)) := mdF_row (fun c hc => w c (by rcases List.mem_append.mp hc with hc | hc; simp [hc]; rcases List.mem_cons.mp hc with hc | hc <;> simp [hc])) h
  rw [mdF_app l (t ++ p :: u) (q :: v), mdF_app l (t ++ u) v]
  show _ = mdF (sw (mdF l (t ++ p :: u)) q) v
  rw [sw_vsw r2.nd wq.1 (by rw [r2.len]; exact wq.2) hq, e2, vsw_vsw]
/-! the first word -/
/-- the place of a bell -/
def ix (l : List Nat) (k : Nat) : Nat := l.idxOf k
theorem made_vs {n : Nat} {t : List Nat} {k : Nat} (h1 : 1 ≤ k) (h2 : k < n) (w : Wd n t) : md n (k :: t) = vsw k (k + 1) (md n t) := by
  have hr := Row.rnd n
  have hk : k < (rnd n).length := by rw [hr.len]; exact h2
  have g : ∀ i, i < n → (rnd n).getD i 0 = i + 1 := fun i hi => by
    unfold rnd
    rw [List.getD_eq_getElem?_getD, List.getElem?_range' (by omega)]
    show 1 + 1 * i = _
    omega
  show mdF (sw (rnd n) k) t = _
  rw [sw_vsw (a := k) (b := k + 1) hr.nd h1 hk (.inl ⟨by unfold lo; rw [g _ (by omega)]; omega, by unfold hi; rw [g _ h2]⟩)]
  exact vsw_mdF k (k + 1) n w hr
theorem wd_cons {n k : Nat} {t : List Nat} (h1 : 1 ≤ k) (h2 : k < n) (w : Wd n t) : Wd n (k :: t) := fun q hq => by
  rcases List.mem_cons.mp hq with rfl | hq
  · exact ⟨h1, h2⟩
  · exact w q hq
theorem vs1_lt {k x c : Nat} (h1 : x ≠ k) (h2 : x ≠ k + 1) : vs1 k (k + 1) c < x ↔ c < x := by
  unfold vs1
  split
  · omega
  · first | omega | (split <;> omega)
theorem filter_vsw {k x : Nat} (h1 : x ≠ k) (h2 : x ≠ k + 1) (l : List Nat) : ((vsw k (k + 1) l).filter fun y => decide (y < x)).length = (l.filter fun y => decide (y < x)).length := by
  unfold vsw
  rw [List.filter_map, List.length_map]
  congr 1
  refine List.filter_congr fun c _ => ?_
  show decide (vs1 k (k + 1) c < x) = decide (c < x)
  exact decide_eq_decide.mpr (vs1_lt h1 h2)
/-- where only one of the two neighbours stands, or none, nothing changes -/
theorem inv_one {k : Nat} : ∀ {l : List Nat}, ¬ (k ∈ l ∧ k + 1 ∈ l) → inv (vsw k (k + 1) l) = inv l
  | [], _ => rfl
  | x :: l, h => by
    have ih := inv_one (k := k) (l := l) fun z => h ⟨List.mem_cons_of_mem _ z.1, List.mem_cons_of_mem _ z.2⟩
    show ((vsw k (k + 1) l).filter fun y => decide (y < vs1 k (k + 1) x)).length + inv (vsw k (k + 1) l) = (l.filter fun y => decide (y < x)).length + inv l
    rw [ih]
    congr 1
    by_cases c1 : x = k
    · subst c1
      have hk : x + 1 ∉ l := fun z => h ⟨List.mem_cons_self, List.mem_cons_of_mem _ z⟩
      have e : vs1 x (x + 1) x = x + 1 := by simp [vs1]
      rw [e]
      unfold vsw
      rw [List.filter_map, List.length_map]
      congr 1
      refine List.filter_congr fun c hc => ?_
      show decide (vs1 x (x + 1) c < x + 1) = decide (c < x)
      refine decide_eq_decide.mpr ?_
      have : c ≠ x + 1 := fun e => hk (e ▸ hc)
      unfold vs1
      split
      · omega
      · first | omega | (split <;> omega)
    · by_cases c2 : x = k + 1
      · subst c2
        have hk : k ∉ l := fun z => h ⟨List.mem_cons_of_mem _ z, List.mem_cons_self⟩
        have e : vs1 k (k + 1) (k + 1) = k := by simp [vs1]
        rw [e]
        unfold vsw
        rw [List.filter_map, List.length_map]
        congr 1
        refine List.filter_congr fun c hc => ?_
        show decide (vs1 k (k + 1) c < k) = decide (c < k + 1)
        refine decide_eq_decide.mpr ?_
        have : c ≠ k := fun e => hk (e ▸ hc)
        unfold vs1
        split
        · omega
        · first | omega | (split <;> omega)
      · rw [vs1_out c1 c2]
        exact filter_vsw c1 c2 l
theorem filter_split {k : Nat} : ∀ {l : List Nat}, l.Nodup → k ∈ l → (l.filter fun y => decide (y < k + 1)).length = (l.filter fun y => decide (y < k)).length + 1
  | [], _, h => nomatch h
  | x :: l, hn, h => by
    obtain ⟨n1, n2⟩ := List.nodup_cons.mp hn
    rw [List.filter_cons, List.filter_cons]
    by_cases c : x = k
    · subst c
      have : l.filter (fun y => decide (y < x + 1)) = l.filter (fun y => decide (y < x)) := List.filter_congr fun c hc => by
        have : c ≠ x := fun e => n1 (e ▸ hc)
        refine decide_eq_decide.mpr ?_
        omega
      rw [this]
      simp
    · have hm : k ∈ l := (List.mem_cons.mp h).resolve_left fun e => c e.symm
      have ih := filter_split n2 hm
      by_cases c2 : x < k
      · have c3 : x < k + 1 := by omega
        simp only [c2, c3, decide_true, if_true, List.length_cons, ih]
      · have c3 : ¬ x < k + 1 := by omega
        simp only [c2, c3, decide_false, Bool.false_eq_true, if_false, ih]
theorem inv_vsw {k : Nat} : ∀ {l : List Nat}, l.Nodup → k ∈ l → k + 1 ∈ l → ix l (k + 1) < ix l k → inv l = inv (vsw k (k + 1) l) + 1
  | [], _, h, _, _ => nomatch h
  | x :: l, hn, h1, h2, hi => by
    obtain ⟨n1, n2⟩ := List.nodup_cons.mp hn
    unfold ix at hi
    rw [List.idxOf_cons, List.idxOf_cons] at hi
    by_cases c2 : x = k + 1
    · subst c2
      have hk : k ∈ l := (List.mem_cons.mp h1).resolve_left (by omega)
      have e : vs1 k (k + 1) (k + 1) = k := by simp [vs1]
      show (l.filter fun y => decide (y < k + 1)).length + inv l = ((vsw k (k + 1) l).filter fun y => decide (y < vs1 k (k + 1) (k + 1))).length + inv (vsw k (k + 1) l) + 1
      rw [e, inv_one (fun z => n1 z.2), filter_split n2 hk]
      have : ((vsw k (k + 1) l).filter fun y => decide (y < k)).length = (l.filter fun y => decide (y < k)).length := by
        unfold vsw
        rw [List.filter_map, List.length_map]
        congr 1
        refine List.filter_congr fun c hc => ?_
        show decide (vs1 k (k + 1) c < k) = decide (c < k)
        refine decide_eq_decide.mpr ?_
        unfold vs1
        split
        · omega
        · first | omega | (split <;> omega)
      omega
    · by_cases c1 : x = k
      · subst c1
        simp at hi
      · have h1' : k ∈ l := (List.mem_cons.mp h1).resolve_left fun e => c1 e.symm
        have h2' : k + 1 ∈ l := (List.mem_cons.mp h2).resolve_left fun e => c2 e.symm
        have b1 : (x == k) = false := by simpa using c1
        have b2 : (x == k + 1) = false := by simpa using c2
        rw [b1, b2] at hi
        have hi' : ix l (k + 1) < ix l k := by
          unfold ix
          simp only [cond_false] at hi
          omega
        have ih := inv_vsw n2 h1' h2' hi'
        show (l.filter fun y => decide (y < x)).length + inv l = ((vsw k (k + 1) l).filter fun y => decide (y < vs1 k (k + 1) x)).length + inv (vsw k (k + 1) l) + 1
        rw [vs1_out c1 c2, filter_vsw c1 c2, ih]
        omega
theorem Row.vsw {n k : Nat} {l : List Nat} (h : Row n l) (h1 : 1 ≤ k) (h2 : k < n) : Row n (vsw k (k + 1) l) := by
  have g : ∀ i, i < n → (BL.rnd n).getD i 0 = i + 1 := fun i hi => by
    unfold BL.rnd
    rw [List.getD_eq_getElem?_getD, List.getElem?_range' (by omega)]
    show 1 + 1 * i = _
    omega
  have hr := Row.rnd n
  have e := sw_vsw (l := BL.rnd n) (p := k) (a := k) (b := k + 1) hr.nd h1 (by rw [hr.len]; exact h2) (.inl ⟨by unfold lo; rw [g _ (by omega)]; omega, by unfold hi; rw [g _ h2]⟩)
  have p1 : (BL.vsw k (k + 1) l).Perm (BL.vsw k (k + 1) (BL.rnd n)) := List.Perm.map _ h
  rw [← e] at p1
  exact p1.trans (sw_perm h1 (by rw [hr.len]; exact h2))
/-- a row in which all bells stand behind the less ones is rounds -/
theorem row_asc {n : Nat} {l : List Nat} (h : Row n l) (ha : ∀ k, 1 ≤ k → k < n → ix l k < ix l (k + 1)) : l = rnd n := by
  have lt : ∀ k, 1 ≤ k → k ≤ n → ix l k < n := fun k a b => by
    have := List.idxOf_lt_length_of_mem (h.mem.mpr ⟨a, b⟩)
    rw [h.len] at this
    exact this
  have up : ∀ k, 1 ≤ k → k ≤ n → k - 1 ≤ ix l k := fun k => by
    induction k with
    | zero => intro a; omega
    | succ k ih =>
      intro a b
      by_cases c : k = 0
      · omega
      · have := ih (by omega) (by omega)
        have := ha k (by omega) (by omega)
        omega
  have dn : ∀ d k, 1 ≤ k → k + d = n → ix l k + d < n := fun d => by
    induction d with
    | zero => intro k a b; exact lt k a (by omega)
    | succ d ih =>
      intro k a b
      have := ih (k + 1) (by omega) (by omega)
      have := ha k a (by omega)
      omega
  have eq : ∀ k, 1 ≤ k → k ≤ n → ix l k = k - 1 := fun k a b => by
    have := up k a b
    have := dn (n - k) k a (by omega)
    omega
  refine List.ext_getElem? fun i => ?_
  by_cases c : i < n
  · have hm : i + 1 ∈ l := h.mem.mpr ⟨by omega, by omega⟩
    have e := eq (i + 1) (by omega) (by omega)
    have hi := List.idxOf_lt_length_of_mem hm
    have g := List.getElem_idxOf hi
    have e2 : l.idxOf (i + 1) = i := by
      have : l.idxOf (i + 1) = i + 1 - 1 := e
      omega
    have g2 : l[l.idxOf (i + 1)]? = some (i + 1) := by rw [List.getElem?_eq_getElem hi, g]
    rw [e2] at g2
    rw [g2]
    unfold rnd
    rw [List.getElem?_range' (by omega)]
    congr 1
    omega
  · rw [List.getElem?_eq_none (by rw [h.len]; omega), List.getElem?_eq_none (by rw [(Row.rnd n).len]; omega)]
end BL
set_option linter.all false
/-! k96: the first word, the shortened word, in plain Lean. -/
namespace BL
def vsF : List Nat → List Nat → List Nat
  | [], l => l
  | p :: t, l => vsw p (p + 1) (vsF t l)
theorem vsF_app : ∀ (t : List Nat) (p : Nat) (l : List Nat), vsF (t ++ [p]) l = vsF t (vsw p (p + 1) l)
  | [], p, l => rfl
  | q :: t, p, l => by
    show vsw q (q + 1) (vsF (t ++ [p]) l) = vsw q (q + 1) (vsF t (vsw p (p + 1) l))
    rw [vsF_app t p l]
theorem md_vsF {n : Nat} : ∀ {t : List Nat}, Wd n t → md n t = vsF t (rnd n)
  | [], _ => rfl
  | p :: t, w => by
    have hp := w p List.mem_cons_self
    have wt : Wd n t := fun q hq => w q (List.mem_cons_of_mem _ hq)
    rw [made_vs hp.1 hp.2 wt, md_vsF wt]
    rfl
/-- the first k that stands behind k + 1 -/
def fstK (l : List Nat) : Option Nat := (List.range' 1 (l.length - 1)).find? fun k => decide (ix l (k + 1) < ix l k)
def fsF : Nat → List Nat → List Nat
  | 0, _ => []
  | m + 1, l => match fstK l with
    | none => []
    | some k => k :: fsF m (vsw k (k + 1) l)
theorem fstK_some {n k : Nat} {l : List Nat} (h : Row n l) (e : fstK l = some k) : 1 ≤ k ∧ k < n ∧ ix l (k + 1) < ix l k := by
  unfold fstK at e
  have h1 := List.mem_of_find?_eq_some e
  have h2 := List.find?_some e
  have h3 := List.mem_range'_1.mp h1
  rw [h.len] at h3
  exact ⟨h3.1, by omega, of_decide_eq_true h2⟩
theorem fstK_none {n : Nat} {l : List Nat} (h : Row n l) (e : fstK l = none) : l = rnd n := by
  refine row_asc h fun k h1 h2 => ?_
  unfold fstK at e
  have h3 := List.find?_eq_none.mp e k (List.mem_range'_1.mpr ⟨h1, by rw [h.len]; omega⟩)
  have h4 : ¬ ix l (k + 1) < ix l k := fun z => h3 (decide_eq_true z)
  have hk : k ∈ l := h.mem.mpr ⟨h1, by omega⟩
  have hk1 : k + 1 ∈ l := h.mem.mpr ⟨by omega, by omega⟩
  have ne : ix l k ≠ ix l (k + 1) := fun z => by
    have a := List.getElem_idxOf (List.idxOf_lt_length_of_mem hk)
    have b := List.getElem_idxOf (List.idxOf_lt_length_of_mem hk1)
    unfold ix at z
    simp only [z] at a
    rw [a] at b
    omega
  omega
theorem fstK_rnd (n : Nat) : fstK (rnd n) = none := by
  unfold fstK
  rw [List.find?_eq_none]
  intro k hk
  have h3 := List.mem_range'_1.mp hk
  rw [(Row.rnd n).len] at h3
  have g : ∀ j, 1 ≤ j → j ≤ n → ix (rnd n) j = j - 1 := fun j a b => by
    have hj : j ∈ rnd n := (Row.rnd n).mem.mpr ⟨a, b⟩
    have e := List.getElem_idxOf (List.idxOf_lt_length_of_mem hj)
    unfold rnd at e
    rw [List.getElem_range'] at e
    unfold ix rnd
    omega
  rw [g k h3.1 (by omega), g (k + 1) (by omega) (by omega)]
  intro z
  have := of_decide_eq_true z
  omega
/-- what holds at each turn of first_shortest -/
structure FsI (n : Nat) (o t l : List Nat) : Prop where
  row : Row n l
  wd : Wd n t
  vs : vsF t l = o
  inv : inv o = t.length + inv l
  fs : fsF (BL.inv o) o = t ++ fsF (BL.inv l) l
theorem FsI.start {n : Nat} {o : List Nat} (h : Row n o) : FsI n o [] o := ⟨h, (fun _ z => nomatch z), rfl, by simp, rfl⟩
theorem FsI.step {n k : Nat} {o t l : List Nat} (I : FsI n o t l) (e : fstK l = some k) : FsI n o (t ++ [k]) (vsw k (k + 1) l) ∧ BL.inv (vsw k (k + 1) l) < BL.inv l := by
  obtain ⟨h1, h2, h3⟩ := fstK_some I.row e
  have hi := inv_vsw I.row.nd (I.row.mem.mpr ⟨h1, by omega⟩) (I.row.mem.mpr ⟨by omega, by omega⟩) h3
  refine ⟨⟨I.row.vsw h1 h2, fun q hq => ?_, ?_, ?_, ?_⟩, by omega⟩
  · rcases List.mem_append.mp hq with hq | hq
    · exact I.wd q hq
    · rw [List.mem_singleton.mp hq]; exact ⟨h1, h2⟩
  · rw [vsF_app, vsw_vsw]; exact I.vs
  · rw [List.length_append, List.length_singleton, I.inv]; omega
  · rw [I.fs, hi]
    rw [fsF, e, List.append_assoc]; rfl
theorem FsI.fin {n : Nat} {o t : List Nat} (I : FsI n o t (rnd n)) : md n t = o ∧ t.length = BL.inv o ∧ t = fsF (BL.inv o) o := by
  have h0 : BL.inv (rnd n) = 0 := inv_range n 1
  refine ⟨by rw [md_vsF I.wd]; exact I.vs, by have := I.inv; omega, ?_⟩
  have := I.fs
  rw [h0] at this
  show t = _
  rw [this]
  exact (List.append_nil t).symm
/-! ### the shortened word -/
/-- the row ahead of the j-th letter -/
def rw' (n : Nat) (t : List Nat) (j : Nat) : List Nat := md n (t.take j)
def pl (t : List Nat) (j : Nat) : Nat := t.getD j 0
def pa (n : Nat) (t : List Nat) (j : Nat) : Nat := min (lo (rw' n t j) (pl t j)) (hi (rw' n t j) (pl t j))
def pb (n : Nat) (t : List Nat) (j : Nat) : Nat := max (lo (rw' n t j) (pl t j)) (hi (rw' n t j) (pl t j))
def asc (n : Nat) (t : List Nat) (j : Nat) : Prop := lo (rw' n t j) (pl t j) < hi (rw' n t j) (pl t j)
theorem wd_take {n : Nat} {t : List Nat} (w : Wd n t) (j : Nat) : Wd n (t.take j) := fun q hq => w q (List.mem_of_mem_take hq)
theorem rw_row {n : Nat} {t : List Nat} (w : Wd n t) (j : Nat) : Row n (rw' n t j) := mdF_row (wd_take w j) (Row.rnd n)
theorem pl_at {t : List Nat} {j : Nat} (h : j < t.length) : t[j]? = some (pl t j) := by
  unfold pl
  rw [List.getD_eq_getElem?_getD, List.getElem?_eq_getElem h]; rfl
theorem pl_wd {n : Nat} {t : List Nat} (w : Wd n t) {j : Nat} (h : j < t.length) : 1 ≤ pl t j ∧ pl t j < n := w _ (List.mem_of_getElem? (pl_at h))
theorem rw_succ {n : Nat} {t : List Nat} {j : Nat} (h : j < t.length) : rw' n t (j + 1) = sw (rw' n t j) (pl t j) := by
  unfold rw' md
  rw [List.take_add_one, pl_at h, mdF_app]
  rfl
theorem rw_zero (n : Nat) (t : List Nat) : rw' n t 0 = rnd n := rfl
theorem rw_all {n : Nat} {t : List Nat} : rw' n t t.length = md n t := by unfold rw'; rw [List.take_length]
/-- pairs that stand the other way round have been exchanged -/
theorem sub_swap {a b : List Nat} {x y c d : Nat} (h : [c, d].Sublist (a ++ y :: x :: b)) (ne : ¬ (c = y ∧ d = x)) : [c, d].Sublist (a ++ x :: y :: b) := by
  obtain ⟨s1, s2, e, h1, h2⟩ := List.sublist_append_iff.mp h
  have key : ∀ s, s.Sublist (y :: x :: b) → (s = [] ∨ s = [d] ∨ s = [c, d]) → s.Sublist (x :: y :: b) := fun s hs hc => by
    rcases hc with rfl | rfl | rfl
    · exact List.nil_sublist _
    · rw [List.singleton_sublist] at hs ⊢
      simp only [List.mem_cons] at hs ⊢
      rcases hs with h | h | h <;> simp [h]
    · cases hs with
      | cons _ hs =>
        cases hs with
        | cons _ hs => exact List.Sublist.cons _ (List.Sublist.cons _ hs)
        | cons_cons _ hs => exact List.Sublist.cons_cons _ (List.Sublist.cons _ hs)
      | cons_cons _ hs =>
        rw [List.singleton_sublist] at hs
        rcases List.mem_cons.mp hs with rfl | hs
        · exact absurd ⟨rfl, rfl⟩ ne
        · exact List.Sublist.cons _ (List.Sublist.cons_cons _ (List.singleton_sublist.mpr hs))
  match s1, e, h1, h2 with
  | [], e, h1, h2 =>
    have e' : s2 = [c, d] := by simpa using e.symm
    subst e'
    exact (key _ h2 (.inr (.inr rfl))).trans (List.sublist_append_right _ _)
  | [u], e, h1, h2 =>
    simp only [List.singleton_append, List.cons.injEq] at e
    obtain ⟨rfl, e2⟩ := e
    rw [← e2] at h2
    exact List.sublist_append_iff.mpr ⟨[c], [d], rfl, h1, key [d] h2 (.inr (.inl rfl))⟩
  | u :: v :: r, e, h1, h2 =>
    simp only [List.cons_append, List.cons.injEq] at e
    obtain ⟨rfl, rfl, e2⟩ := e
    have := List.append_eq_nil_iff.mp e2.symm
    rw [this.1] at h1
    exact h1.trans (List.sublist_append_left _ _)
theorem turned_before {n : Nat} {t : List Nat} (w : Wd n t) : ∀ j, j ≤ t.length → (∀ i, i < j → asc n t i) → ∀ a b, a < b → [b, a].Sublist (rw' n t j) → ∃ i, i < j ∧ pa n t i = a ∧ pb n t i = b
  | 0, _, _, a, b, hab, hs => by
    rw [rw_zero] at hs
    have hp : (rnd n).Pairwise (· < ·) := List.pairwise_lt_range'
    have := List.Pairwise.sublist hs hp
    have := List.rel_of_pairwise_cons this (List.mem_singleton.mpr rfl)
    omega
  | j + 1, hj, ha, a, b, hab, hs => by
    have hw := pl_wd w (j := j) (by omega)
    have hr := rw_row w j
    obtain ⟨u, x, y, v, e, hu⟩ := split_at hw.1 (by rw [hr.len]; exact hw.2)
    have hp : pl t j = u.length + 1 := by omega
    have hlo : lo (rw' n t j) (pl t j) = x := by rw [e, hp, lo_app]
    have hhi : hi (rw' n t j) (pl t j) = y := by rw [e, hp, hi_app]
    have hxy : x < y := by
      have := ha j (by omega)
      unfold asc at this
      rw [hlo, hhi] at this
      exact this
    rw [rw_succ (by omega), e, hp, sw_app] at hs
    by_cases c : b = y ∧ a = x
    · refine ⟨j, by omega, ?_, ?_⟩
      · unfold pa; rw [hlo, hhi, c.2]; omega
      · unfold pb; rw [hlo, hhi, c.1]; omega
    · have h2 := sub_swap hs c
      rw [← e] at h2
      obtain ⟨i, h3, h4⟩ := turned_before w j (by omega) (fun i hi => ha i (by omega)) a b hab h2
      exact ⟨i, by omega, h4⟩
theorem desc_before {n : Nat} {t : List Nat} (w : Wd n t) {j : Nat} (hj : j < t.length) (ha : ∀ i, i < j → asc n t i) (hd : ¬ asc n t j) : ∃ i, i < j ∧ pa n t i = pa n t j ∧ pb n t i = pb n t j := by
  have hw := pl_wd w hj
  have hr := rw_row w j
  obtain ⟨u, x, y, v, e, hu⟩ := split_at hw.1 (by rw [hr.len]; exact hw.2)
  have hp : pl t j = u.length + 1 := by omega
  have hlo : lo (rw' n t j) (pl t j) = x := by rw [e, hp, lo_app]
  have hhi : hi (rw' n t j) (pl t j) = y := by rw [e, hp, hi_app]
  have hne := lo_ne_hi hr.nd hw.1 (by rw [hr.len]; exact hw.2)
  unfold asc at hd
  rw [hlo, hhi] at hd hne
  have hs : [x, y].Sublist (rw' n t j) := by
    rw [e]
    exact (List.Sublist.cons_cons _ (List.Sublist.cons_cons _ (List.nil_sublist _))).trans (List.sublist_append_right _ _)
  have := turned_before w j (by omega) ha y x (by omega) hs
  unfold pa pb at this ⊢
  rw [hlo, hhi]
  obtain ⟨i, h1, h2, h3⟩ := this
  exact ⟨i, h1, by omega, by omega⟩
/-- without the i-th and the j-th letter -/
def del2 (t : List Nat) (i j : Nat) : List Nat := (t.zipIdx.filter fun p => p.2 != i && p.2 != j).map (·.1)
theorem del_one (v : List Nat) (s i j : Nat) (h : ∀ k, s ≤ k → k < s + v.length → k ≠ i ∧ k ≠ j) : ((v.zipIdx s).filter fun p => p.2 != i && p.2 != j).map (·.1) = v := by
  induction v generalizing s with
  | nil => rfl
  | cons x v ih =>
    have h0 := h s (Nat.le_refl _) (by rw [List.length_cons]; omega)
    rw [List.zipIdx_cons, List.filter_cons_of_pos (by simp [h0]), List.map_cons, ih (s + 1) fun k a b => h k (by omega) (by rw [List.length_cons]; omega)]
theorem del2_split {t : List Nat} {i j : Nat} (hij : i < j) (hj : j < t.length) : ∃ u v w, t = u ++ pl t i :: v ++ pl t j :: w ∧ u.length = i ∧ u.length + 1 + v.length = j ∧ del2 t i j = u ++ v ++ w := by
  have e1 : t = t.take j ++ pl t j :: t.drop (j + 1) := by
    have := List.drop_eq_getElem_cons hj
    have g : t[j] = pl t j := by have := pl_at hj; rw [List.getElem?_eq_getElem hj] at this; exact Option.some.inj this
    rw [g] at this
    rw [← this, List.take_append_drop]
  have hi : i < t.length := by omega
  have e2 : t.take j = t.take i ++ pl t i :: (t.take j).drop (i + 1) := by
    have hl : i < (t.take j).length := by rw [List.length_take]; omega
    have := List.drop_eq_getElem_cons hl
    have g : (t.take j)[i] = pl t i := by
      rw [List.getElem_take]
      have := pl_at hi
      rw [List.getElem?_eq_getElem hi] at this
      exact Option.some.inj this
    rw [g] at this
    conv => lhs; rw [← List.take_append_drop i (t.take j), this]
    rw [List.take_take, Nat.min_eq_left (by omega)]
  refine ⟨t.take i, (t.take j).drop (i + 1), t.drop (j + 1), by rw [← e2]; exact e1, by rw [List.length_take]; omega, by rw [List.length_take, List.length_drop, List.length_take]; omega, ?_⟩
  generalize hu : t.take i = u at e2
  generalize hv : (t.take j).drop (i + 1) = v at e2
  generalize hw : t.drop (j + 1) = w at e1
  have lu : u.length = i := by rw [← hu, List.length_take]; omega
  have lv : u.length + 1 + v.length = j := by rw [← hv, lu, List.length_drop, List.length_take]; omega
  rw [e2] at e1
  generalize pl t i = p at e1
  generalize pl t j = q at e1
  unfold del2
  rw [e1, List.zipIdx_append, List.zipIdx_append, List.filter_append, List.filter_append, List.map_append, List.map_append, List.zipIdx_cons, List.zipIdx_cons]
  rw [List.filter_cons_of_neg (by simp [lu]), List.filter_cons_of_neg (by simp; intro _; omega)]
  rw [del_one u 0 i j fun k a b => by omega, del_one v _ i j fun k a b => by omega]
  rw [del_one w _ i j fun k a b => by rw [List.length_append, List.length_cons] at a; omega]
theorem del_ok {n : Nat} {t : List Nat} (w : Wd n t) {i j : Nat} (hij : i < j) (hj : j < t.length) (h1 : pa n t i = pa n t j) (h2 : pb n t i = pb n t j) :
    md n (del2 t i j) = md n t ∧ Wd n (del2 t i j) ∧ (del2 t i j).length + 2 = t.length := by
  obtain ⟨u, v, z, e, lu, lv, ed⟩ := del2_split hij hj
  have wi := pl_wd w (j := i) (by omega)
  have wj := pl_wd w hj
  have ru : rw' n t i = mdF (rnd n) u := by
    unfold rw' md
    congr 1
    rw [e, List.append_assoc, List.take_left' lu]
  have rv : rw' n t j = mdF (rnd n) (u ++ pl t i :: v) := by
    unfold rw' md
    congr 1
    conv => lhs; rw [e]
    exact List.take_left' (by rw [List.length_append, List.length_cons]; omega)
  generalize hp : pl t i = p at *
  generalize hq : pl t j = q at *
  have hne := lo_ne_hi (rw_row w i).nd wi.1 (by rw [(rw_row w i).len]; exact wi.2)
  have hne2 := lo_ne_hi (rw_row w j).nd wj.1 (by rw [(rw_row w j).len]; exact wj.2)
  have k1 : (lo (mdF (rnd n) u) p = pa n t j ∧ hi (mdF (rnd n) u) p = pb n t j) ∨ (lo (mdF (rnd n) u) p = pb n t j ∧ hi (mdF (rnd n) u) p = pa n t j) := by
    rw [← h1, ← h2]
    unfold pa pb
    rw [hp, ru]
    omega
  have k2 : (lo (mdF (rnd n) (u ++ p :: v)) q = pa n t j ∧ hi (mdF (rnd n) (u ++ p :: v)) q = pb n t j) ∨ (lo (mdF (rnd n) (u ++ p :: v)) q = pb n t j ∧ hi (mdF (rnd n) (u ++ p :: v)) q = pa n t j) := by
    unfold pa pb
    rw [hq, rv]
    omega
  have w2 : Wd n (u ++ p :: v ++ q :: z) := by rw [← e]; exact w
  refine ⟨?_, ?_, ?_⟩
  · rw [ed]
    have := del_two (l := rnd n) w2 (Row.rnd n) k1 k2
    unfold md
    rw [this, ← e]
  · rw [ed]
    intro c hc
    refine w2 c ?_
    simp only [List.mem_append, List.mem_cons] at hc ⊢
    rcases hc with (h | h) | h <;> simp [h]
  · rw [ed, e]
    simp only [List.length_append, List.length_cons]
    omega
/-- where no letter lowers, the word is shortest -/
theorem asc_short {n : Nat} {t : List Nat} (w : Wd n t) : ∀ j, j ≤ t.length → (∀ i, i < j → asc n t i) → inv (rw' n t j) = j
  | 0, _, _ => inv_range n 1
  | j + 1, hj, ha => by
    have hw := pl_wd w (j := j) (by omega)
    have hr := rw_row w j
    have := (inv_sw hw.1 (by rw [hr.len]; exact hw.2)).2 (ha j (by omega))
    rw [rw_succ (by omega), this, asc_short w j (by omega) fun i hi => ha i (by omega)]
/-- the last earlier letter that exchanges the same bells -/
def lastP (n : Nat) (t : List Nat) (a b : Nat) : Nat → Option Nat
  | 0 => none
  | j + 1 => if pa n t j = a ∧ pb n t j = b then some j else lastP n t a b j
theorem lastP_some {n : Nat} {t : List Nat} {a b : Nat} : ∀ {j i : Nat}, lastP n t a b j = some i → i < j ∧ pa n t i = a ∧ pb n t i = b
  | 0, i, h => nomatch h
  | j + 1, i, h => by
    rw [lastP] at h
    split at h
    · rename_i c; cases h; exact ⟨by omega, c⟩
    · have := lastP_some h
      exact ⟨by omega, this.2⟩
theorem lastP_ex {n : Nat} {t : List Nat} {a b : Nat} : ∀ {j i : Nat}, i < j → pa n t i = a → pb n t i = b → ∃ k, lastP n t a b j = some k
  | 0, i, h, _, _ => absurd h (by omega)
  | j + 1, i, h, h1, h2 => by
    rw [lastP]
    by_cases c : pa n t j = a ∧ pb n t j = b
    · exact ⟨j, if_pos c⟩
    · rw [if_neg c]
      by_cases e : i = j
      · subst e; exact absurd ⟨h1, h2⟩ c
      · exact lastP_ex (by omega : i < j) h1 h2
instance (n : Nat) (t : List Nat) (j : Nat) : Decidable (asc n t j) := inferInstanceAs (Decidable (_ < _))
/-- the first letter that lowers -/
def dsc (n : Nat) (t : List Nat) : Option Nat := (List.range t.length).find? fun j => !decide (asc n t j)
theorem dsc_of {n : Nat} {t : List Nat} {j : Nat} (hj : j < t.length) (ha : ∀ i, i < j → asc n t i) (hd : ¬ asc n t j) : dsc n t = some j := by
  unfold dsc
  rw [List.find?_range_eq_some]
  refine ⟨by rw [decide_eq_false hd]; rfl, List.mem_range.mpr hj, fun i hi => ?_⟩
  rw [decide_eq_true (ha i hi)]; rfl
/-- one shortening -/
def sh1 (n : Nat) (t : List Nat) : List Nat := match dsc n t with
  | none => t
  | some j => match lastP n t (pa n t j) (pb n t j) j with
    | none => t
    | some i => del2 t i j
def shF (n : Nat) : Nat → List Nat → List Nat
  | 0, t => t
  | f + 1, t => if inv (md n t) = t.length then t else shF n f (sh1 n t)
theorem sh1_ok {n : Nat} {t : List Nat} (w : Wd n t) (h : inv (md n t) ≠ t.length) : ∃ i j, i < j ∧ j < t.length ∧ dsc n t = some j ∧ (∀ k, k < j → asc n t k) ∧ ¬ asc n t j ∧ lastP n t (pa n t j) (pb n t j) j = some i ∧ sh1 n t = del2 t i j ∧ md n (sh1 n t) = md n t ∧ Wd n (sh1 n t) ∧ (sh1 n t).length + 2 = t.length := by
  have : ∃ j, dsc n t = some j := by
    cases e : dsc n t with
    | some j => exact ⟨j, rfl⟩
    | none =>
      unfold dsc at e
      rw [List.find?_eq_none] at e
      refine absurd ?_ h
      rw [← rw_all]
      refine asc_short w t.length (Nat.le_refl _) fun i hi => ?_
      have := e i (List.mem_range.mpr hi)
      simpa using this
  obtain ⟨j, e⟩ := this
  have e' := e
  unfold dsc at e'
  rw [List.find?_range_eq_some] at e'
  obtain ⟨e1, e2, e3⟩ := e'
  have hj := List.mem_range.mp e2
  have hd : ¬ asc n t j := by simpa using e1
  have ha : ∀ k, k < j → asc n t k := fun k hk => by simpa using e3 k hk
  obtain ⟨i0, h1, h2, h3⟩ := desc_before w hj ha hd
  obtain ⟨i, hi⟩ := lastP_ex h1 h2 h3
  obtain ⟨g1, g2, g3⟩ := lastP_some hi
  have es : sh1 n t = del2 t i j := by unfold sh1; rw [e]; dsimp only; rw [hi]
  obtain ⟨d1, d2, d3⟩ := del_ok w g1 hj g2 g3
  exact ⟨i, j, g1, hj, e, ha, hd, hi, es, by rw [es]; exact d1, by rw [es]; exact d2, by rw [es]; exact d3⟩
theorem shF_ok {n : Nat} : ∀ (f : Nat) {t : List Nat}, Wd n t → t.length < 2 * f → md n (shF n f t) = md n t ∧ Wd n (shF n f t) ∧ inv (md n t) = (shF n f t).length
  | 0, t, _, h => absurd h (by omega)
  | f + 1, t, w, h => by
    rw [shF]
    by_cases c : inv (md n t) = t.length
    · rw [if_pos c]; exact ⟨rfl, w, c⟩
    · rw [if_neg c]
      obtain ⟨i, j, _, _, _, _, _, _, _, d1, d2, d3⟩ := sh1_ok w c
      have := shF_ok f d2 (by omega)
      rw [d1] at this
      exact this
end BL
set_option Elab.async false
set_option linter.all false
set_option maxRecDepth 100000
set_option maxHeartbeats 4000000
/-! k96: rows and words as data. -/
namespace BL
open PySem PySem.Spec PyProof.Rows L2 BD
def iD (n : Nat) : D := .int (n : Nat)
def iL (l : List Nat) : D := .lst (l.map iD)
def rT (l : List Nat) : D := .tup (l.map iD)
def rX (l : List Nat) : D := .xt (l.map iD)
theorem rangeD_eq (lo n : Nat) : rangeD (lo : Nat) n = (List.range' lo n).map iD := by
  unfold rangeD
  rw [List.range'_eq_map_range, List.map_map]
  refine List.map_congr_left fun i _ => ?_
  show D.int ((lo : Int) + (i : Nat)) = D.int ((lo + i : Nat) : Int)
  rw [Int.natCast_add]
theorem range_rnd (n : Nat) : rangeD 1 ((n : Int) + 1 - 1).toNat = (rnd n).map iD := by
  rw [show (1 : Int) = ((1 : Nat) : Int) from rfl, rangeD_eq]
  unfold rnd
  congr 2
  omega
theorem wks_iD : ∀ l : List Nat, wks (l.map iD) = l.map iD
  | [] => rfl
  | x :: l => by rw [List.map_cons, wks, wks_iD l]; rfl
theorem wk_rX (l : List Nat) : wk (rX l) = rT l := by unfold rX rT; rw [wk, wks_iD]
theorem wk_rT (l : List Nat) : wk (rT l) = rT l := by unfold rT; rw [wk, wks_iD]
theorem iD_inj {a b : Nat} (h : iD a = iD b) : a = b := by
  have : (a : Int) = b := by injection h
  omega
theorem map_iD_inj : ∀ {l m : List Nat}, l.map iD = m.map iD → l = m
  | [], [], _ => rfl
  | [], _ :: _, h => nomatch h
  | _ :: _, [], h => nomatch h
  | a :: l, b :: m, h => by
    rw [List.map_cons, List.map_cons] at h
    injection h with h1 h2
    rw [iD_inj h1, map_iD_inj h2]
theorem eq_iD (a b : Nat) : D.eq (iD a) (iD b) = (a == b) := by
  show ((a : Int) == (b : Int)) = (a == b)
  rw [Bool.eq_iff_iff, beq_iff_eq, beq_iff_eq]
  omega
theorem eqs_iD : ∀ l m : List Nat, D.eqs (l.map iD) (m.map iD) = (l == m)
  | [], [] => rfl
  | [], _ :: _ => rfl
  | _ :: _, [] => rfl
  | a :: l, b :: m => by
    rw [List.map_cons, List.map_cons, D.eqs, eqs_iD l m, eq_iD]
    rfl
theorem eq_rT (l m : List Nat) : D.eq (rT l) (rT m) = (l == m) := by unfold rT; rw [D.eq, eqs_iD]
theorem eq_iL (l m : List Nat) : D.eq (iL l) (iL m) = (l == m) := by unfold iL; rw [D.eq, eqs_iD]
theorem okd_iD (n : Nat) (l : List Nat) : (l.map iD).all (okd n) = true := by
  rw [List.all_eq_true]
  intro d hd
  obtain ⟨i, _, rfl⟩ := List.mem_map.mp hd
  cases n <;> rfl
theorem okd_rT (n : Nat) (l : List Nat) : okd (n + 1) (rT l) = true := okd_iD n l
theorem okd_iL (n : Nat) (l : List Nat) : okd (n + 1) (iL l) = true := okd_iD n l
theorem cok_rT (l m : List Nat) : cok (rT l) (rT m) = true := by
  unfold cok
  rw [okd_rT, okd_rT, Bool.and_true, Bool.or_true]
theorem cok_iL (l m : List Nat) : cok (iL l) (iL m) = true := by
  unfold cok
  rw [okd_iL, okd_iL, Bool.and_true, Bool.or_true]
theorem oks_rT {l : List Nat} (h : l.length ≤ 1000) : oks 1 (rT l) = true := by
  have e24 : sizeLine = 16777216 := by decide
  show (decide ((l.map iD).length ≤ sizeLine) && (l.map iD).all (oks 0)) = true
  rw [Bool.and_eq_true, decide_eq_true_eq, List.length_map]
  refine ⟨by omega, List.all_eq_true.mpr fun d hd => ?_⟩
  obtain ⟨p, _, rfl⟩ := List.mem_map.mp hd
  rfl
theorem at_iD {l : List Nat} {i : Nat} (h : i < l.length) : atI (l.map iD) (i : Int) = some (iD (l.getD i 0)) := by
  obtain ⟨x, h1, h2, _⟩ := atI_in (xs := l.map iD) (i := (i : Int)) (by omega) (by rw [List.length_map]; omega)
  rw [h1]
  rw [Int.toNat_natCast, List.getElem?_map, List.getElem?_eq_getElem h] at h2
  rw [List.getD_eq_getElem?_getD, List.getElem?_eq_getElem h]
  exact h2.symm
theorem cutL_from {α : Type} {xs : List α} {i : Nat} (h : i ≤ xs.length) : cutL xs (some (i : Int)) none = xs.drop i := by
  unfold cutL
  rw [HT.sIx_nat, Nat.min_eq_left h]
  show (xs.drop i).take (xs.length - i) = _
  rw [List.take_of_length_le (by rw [List.length_drop]; omega)]
theorem cutL_upto {α : Type} {xs : List α} {i : Nat} (h : i ≤ xs.length) : cutL xs none (some (i : Int)) = xs.take i := by
  unfold cutL
  rw [HT.sIx_nat]
  show (xs.drop 0).take (min i xs.length - 0) = _
  rw [List.drop_zero, Nat.sub_zero, Nat.min_eq_left h]
theorem cutL_mid {α : Type} {xs : List α} {i j : Nat} (h : i ≤ j) (h2 : j ≤ xs.length) : cutL xs (some (i : Int)) (some (j : Int)) = (xs.drop i).take (j - i) := by
  unfold cutL
  rw [HT.sIx_nat, HT.sIx_nat, Nat.min_eq_left h2, Nat.min_eq_left (by omega)]
theorem ib_cx {x : Int} (h0 : 0 ≤ x) (h1 : x < 1000000) : ib x ≤ 1000 := ib_le (n := 20) (ib_nat h0 (by omega))
/-- the exchange by slices -/
theorem sw_cut {l : List Nat} {p : Nat} (h1 : 1 ≤ p) (h2 : p < l.length) : l.take (p - 1) ++ [hi l p, lo l p] ++ l.drop (p + 1) = sw l p := by
  obtain ⟨a, x, y, b, rfl, ha⟩ := split_at h1 h2
  have hp : p = a.length + 1 := by omega
  rw [hp, sw_app, lo_app, hi_app, Nat.add_sub_cancel, List.take_left' rfl]
  have : (a ++ x :: y :: b).drop (a.length + 1 + 1) = b := by
    rw [← List.drop_drop, ← List.drop_drop, List.drop_left' rfl]; rfl
  rw [this]
  simp
theorem mid_two {l : List Nat} {p : Nat} (h1 : 1 ≤ p) (h2 : p < l.length) : (l.drop (p - 1)).take 2 = [lo l p, hi l p] := by
  obtain ⟨a, x, y, b, rfl, ha⟩ := split_at h1 h2
  have hp : p = a.length + 1 := by omega
  rw [hp, lo_app, hi_app, Nat.add_sub_cancel, List.drop_left' rfl]; rfl
/-- the exchange by setting -/
theorem sw_set {l : List Nat} {p : Nat} (h1 : 1 ≤ p) (h2 : p < l.length) : (l.set (p - 1) (hi l p)).set p (lo l p) = sw l p := by
  obtain ⟨a, x, y, b, rfl, ha⟩ := split_at h1 h2
  have hp : p = a.length + 1 := by omega
  rw [hp, sw_app, lo_app, hi_app, Nat.add_sub_cancel]
  rw [List.set_append_right (h := Nat.le_refl _), Nat.sub_self, List.set_cons_zero, List.set_append_right (h := by omega), Nat.add_sub_cancel_left]
  rfl
/-- the turned pairs, counted bell by bell -/
def cnt (l : List Nat) (p : Nat × Nat) : List Nat := (l.drop p.2).filter fun y => decide (y < p.1)
theorem cnt_sum : ∀ (l full : List Nat) (s : Nat), full.drop s = l → (((l.zipIdx s).flatMap (cnt full)).length : Nat) = inv l
  | [], _, _, _ => rfl
  | x :: l, full, s, h => by
    have h2 : full.drop (s + 1) = l := by rw [← List.drop_drop, h]; rfl
    rw [List.zipIdx_cons, List.flatMap_cons, List.length_append, cnt_sum l full (s + 1) h2]
    show ((full.drop s).filter fun y => decide (y < x)).length + inv l = (l.filter fun y => decide (y < x)).length + inv l
    rw [h, List.filter_cons_of_neg (by simp)]
theorem cnt_map (l : List Nat) (s : Nat) (full : List Nat) (h : full.drop s = l) : ((l.zipIdx s).map fun p => ((full.drop (p.2 + 1)).filter fun y => decide (y < p.1)).length).sum = inv l := by
  induction l generalizing s with
  | nil => rfl
  | cons x l ih =>
    have h2 : full.drop (s + 1) = l := by rw [← List.drop_drop, h]; rfl
    rw [List.zipIdx_cons, List.map_cons, List.sum_cons, ih (s + 1) h2]
    show ((full.drop (s + 1)).filter _).length + inv l = _
    rw [h2]; rfl
theorem enum_iD (l : List Nat) : enumD (l.map iD) = l.zipIdx.map fun p => .tup [iD p.2, iD p.1] := by
  unfold enumD
  rw [List.zipIdx_map, List.map_map]
  rfl
end BL
set_option linter.all false
/-! k78: rows and their unlike pairs, in plain Lean. -/
namespace BL
/-- x stands ahead of y -/
def bf (l : List Nat) (x y : Nat) : Prop := [x, y].Sublist l
theorem bf_ix : ∀ {l : List Nat} {x y : Nat}, l.Nodup → x ≠ y → y ∈ l → (bf l x y ↔ ix l x < ix l y)
  | [], _, _, _, _, h => nomatch h
  | z :: l, x, y, hn, hne, hy => by
    obtain ⟨n1, n2⟩ := List.nodup_cons.mp hn
    unfold ix
    rw [List.idxOf_cons, List.idxOf_cons]
    by_cases c1 : z = x
    · subst c1
      have b1 : (z == z) = true := beq_self_eq_true z
      have b2 : (z == y) = false := by simpa using hne
      have hy2 : y ∈ l := (List.mem_cons.mp hy).resolve_left fun e => hne e.symm
      rw [b1, b2]
      refine ⟨fun _ => by simp, fun _ => ?_⟩
      exact List.Sublist.cons_cons _ (List.singleton_sublist.mpr hy2)
    · have b1 : (z == x) = false := by simpa using c1
      by_cases c2 : z = y
      · subst c2
        have b2 : (z == z) = true := beq_self_eq_true z
        rw [b1, b2]
        refine ⟨fun h => ?_, fun h => by simp at h⟩
        unfold bf at h
        cases h with
        | cons _ h => exact absurd (h.subset (by simp)) n1
        | cons_cons _ h => exact absurd rfl c1
      · have b2 : (z == y) = false := by simpa using c2
        have hy2 : y ∈ l := (List.mem_cons.mp hy).resolve_left fun e => c2 e.symm
        rw [b1, b2]
        have ih := bf_ix n2 hne hy2
        unfold ix at ih
        simp only [cond_false]
        rw [Nat.add_lt_add_iff_right, ← ih]
        unfold bf
        constructor
        · intro h
          cases h with
          | cons _ h => exact h
          | cons_cons _ h => exact absurd rfl c1
        · exact fun h => List.Sublist.cons _ h
theorem bf_total {l : List Nat} {x y : Nat} (hn : l.Nodup) (hne : x ≠ y) (hx : x ∈ l) (hy : y ∈ l) : ¬ bf l x y ↔ bf l y x := by
  rw [bf_ix hn hne hy, bf_ix hn (Ne.symm hne) hx]
  have : ix l x ≠ ix l y := fun z => by
    have a := List.getElem_idxOf (List.idxOf_lt_length_of_mem hx)
    have b := List.getElem_idxOf (List.idxOf_lt_length_of_mem hy)
    unfold ix at z
    simp only [z] at a
    rw [a] at b
    exact hne b
  omega
/-- all pairs -/
def evr (n : Nat) : List (Nat × Nat) := (List.range' 1 n).flatMap fun a => (List.range' (a + 1) (n - a)).map fun b => (a, b)
theorem mem_evr {n : Nat} {p : Nat × Nat} : p ∈ evr n ↔ 1 ≤ p.1 ∧ p.1 < p.2 ∧ p.2 ≤ n := by
  unfold evr
  rw [List.mem_flatMap]
  constructor
  · rintro ⟨a, ha, h⟩
    obtain ⟨b, hb, rfl⟩ := List.mem_map.mp h
    have := List.mem_range'_1.mp ha
    have := List.mem_range'_1.mp hb
    exact ⟨by show 1 ≤ a; omega, by show a < b; omega, by show b ≤ n; omega⟩
  · rintro ⟨h1, h2, h3⟩
    exact ⟨p.1, List.mem_range'_1.mpr ⟨h1, by omega⟩, List.mem_map.mpr ⟨p.2, List.mem_range'_1.mpr ⟨by omega, by omega⟩, rfl⟩⟩
def plt (p q : Nat × Nat) : Prop := p.1 < q.1 ∨ (p.1 = q.1 ∧ p.2 < q.2)
theorem evr_asc (n : Nat) : (evr n).Pairwise plt := by
  unfold evr
  rw [List.pairwise_flatMap]
  refine ⟨fun a _ => ?_, ?_⟩
  · rw [List.pairwise_map]
    exact List.Pairwise.imp (fun h => .inr ⟨rfl, h⟩) List.pairwise_lt_range'
  · refine List.Pairwise.imp (fun {a b} h => ?_) List.pairwise_lt_range'
    intro x hx y hy
    obtain ⟨_, _, rfl⟩ := List.mem_map.mp hx
    obtain ⟨_, _, rfl⟩ := List.mem_map.mp hy
    exact .inl h
theorem asc_nodup {l : List (Nat × Nat)} (h : l.Pairwise plt) : l.Nodup := h.imp fun {a b} h e => by
  subst e
  unfold plt at h
  omega
/-- the unlike pairs in order -/
def prs (n : Nat) (l : List Nat) : List (Nat × Nat) := (evr n).filter fun p => decide (ix l p.2 < ix l p.1)
theorem mem_prs {n : Nat} {l : List Nat} (h : Row n l) {a b : Nat} : (a, b) ∈ prs n l ↔ 1 ≤ a ∧ a < b ∧ b ≤ n ∧ bf l b a := by
  unfold prs
  rw [List.mem_filter, mem_evr]
  constructor
  · rintro ⟨⟨h1, h2, h3⟩, h4⟩
    exact ⟨h1, h2, h3, (bf_ix h.nd (Nat.ne_of_gt h2) (h.mem.mpr ⟨h1, Nat.le_trans (Nat.le_of_lt h2) h3⟩)).mpr (of_decide_eq_true h4)⟩
  · rintro ⟨h1, h2, h3, h4⟩
    exact ⟨⟨h1, h2, h3⟩, decide_eq_true ((bf_ix h.nd (by omega) (h.mem.mpr ⟨h1, by omega⟩)).mp h4)⟩
/-- pairs as the program finds them -/
def unl : List Nat → List (Nat × Nat)
  | [] => []
  | x :: r => (r.filter fun y => decide (y < x)).map (fun y => (y, x)) ++ unl r
theorem mem_unl : ∀ {l : List Nat} {a b : Nat}, (a, b) ∈ unl l ↔ a < b ∧ bf l b a
  | [], a, b => by
    refine Iff.intro (fun h => (nomatch h)) fun h => ?_
    have := h.2
    unfold bf at this
    cases this
  | x :: r, a, b => by
    rw [unl, List.mem_append, mem_unl, List.mem_map]
    unfold bf
    constructor
    · rintro (⟨y, hy, e⟩ | ⟨h1, h2⟩)
      · cases e
        rw [List.mem_filter] at hy
        exact ⟨of_decide_eq_true hy.2, List.Sublist.cons_cons _ (List.singleton_sublist.mpr hy.1)⟩
      · exact ⟨h1, List.Sublist.cons _ h2⟩
    · rintro ⟨h1, h2⟩
      cases h2 with
      | cons _ h => exact .inr ⟨h1, h⟩
      | cons_cons _ h => exact .inl ⟨a, List.mem_filter.mpr ⟨List.singleton_sublist.mp h, decide_eq_true h1⟩, rfl⟩
theorem unl_nodup : ∀ {l : List Nat}, l.Nodup → (unl l).Nodup
  | [], _ => List.nodup_nil
  | x :: r, hn => by
    obtain ⟨n1, n2⟩ := List.nodup_cons.mp hn
    rw [unl, List.nodup_append]
    refine ⟨?_, unl_nodup n2, ?_⟩
    · have : (r.filter fun y => decide (y < x)).Nodup := n2.sublist List.filter_sublist
      unfold List.Nodup at this ⊢
      rw [List.pairwise_map]
      exact this.imp fun {a b} h e => h (by cases e; rfl)
    · intro p hp q hq e
      subst e
      obtain ⟨y, _, rfl⟩ := List.mem_map.mp hp
      have := (mem_unl.mp hq).2
      exact n1 (this.subset (by simp))
theorem unl_prs {n : Nat} {l : List Nat} (h : Row n l) : (unl l).Perm (prs n l) := by
  refine (List.perm_ext_iff_of_nodup (unl_nodup h.nd) (asc_nodup ((evr_asc n).filter _) : (prs n l).Nodup)).mpr ?_
  rintro ⟨a, b⟩
  rw [mem_unl, mem_prs h]
  constructor
  · rintro ⟨h1, h2⟩
    have ha := h.mem.mp (h2.subset (by simp : a ∈ [b, a]))
    have hb := h.mem.mp (h2.subset (by simp : b ∈ [b, a]))
    exact ⟨ha.1, h1, hb.2, h2⟩
  · rintro ⟨h1, h2, h3, h4⟩
    exact ⟨h2, h4⟩
/-! ### the row with some pairs -/
def bhd (t : List (Nat × Nat)) (k : Nat) : Nat := (t.filter fun p => p.2 == k).length
def ins (l : List Nat) (i x : Nat) : List Nat := l.take i ++ x :: l.drop i
def rwB (t : List (Nat × Nat)) : Nat → List Nat
  | 0 => []
  | k + 1 => ins (rwB t k) (k - bhd t (k + 1)) (k + 1)
theorem rnd_succ (k : Nat) : rnd (k + 1) = rnd k ++ [k + 1] := by
  unfold rnd
  rw [List.range'_concat]
  congr 2
  omega
theorem rwB_row (t : List (Nat × Nat)) : ∀ k, Row k (rwB t k)
  | 0 => List.Perm.refl _
  | k + 1 => by
    have h := rwB_row t k
    unfold Row at h ⊢
    rw [rnd_succ]
    show ((rwB t k).take _ ++ (k + 1) :: (rwB t k).drop _).Perm _
    refine List.perm_middle.trans ?_
    rw [List.take_append_drop]
    exact (List.Perm.cons _ h).trans (List.perm_append_singleton _ _).symm
/-- the row itself comes back -/
theorem filt_all {n : Nat} {l : List Nat} (h : Row n l) : l.filter (fun y => decide (y ≤ n)) = l := List.filter_eq_self.mpr fun y hy => decide_eq_true (h.mem.mp hy).2
theorem bhd_of {n : Nat} {u v : List Nat} {k : Nat} (h : Row n (u ++ k :: v)) : bhd (prs n (u ++ k :: v)) k = (v.filter fun y => decide (y < k)).length := by
  have hp : ((prs n (u ++ k :: v)).filter fun p => p.2 == k).Perm ((v.filter fun y => decide (y < k)).map fun y => (y, k)) := by
    have hnd := h.nd
    have hv : v.Nodup := ((List.nodup_append.mp hnd).2.1 |> List.nodup_cons.mp).2
    refine (List.perm_ext_iff_of_nodup ((asc_nodup ((evr_asc n).filter _) : (prs n (u ++ k :: v)).Nodup).sublist List.filter_sublist) ?_).mpr ?_
    · have : (v.filter fun y => decide (y < k)).Nodup := hv.sublist List.filter_sublist
      unfold List.Nodup at this ⊢
      rw [List.pairwise_map]
      exact this.imp fun {a b} h e => h (by cases e; rfl)
    · rintro ⟨a, b⟩
      rw [List.mem_filter, mem_prs h, List.mem_map]
      have key : bf (u ++ k :: v) k a ↔ a ∈ v ∧ a ≠ k := by
        obtain ⟨n1, n2, n3⟩ := List.nodup_append.mp hnd
        obtain ⟨m1, m2⟩ := List.nodup_cons.mp n2
        constructor
        · intro hs
          have hu : k ∉ u := fun z => n3 k z k List.mem_cons_self rfl
          obtain ⟨s1, s2, e, h1, h2⟩ := List.sublist_append_iff.mp hs
          cases s1 with
          | nil =>
            have e2 : s2 = [k, a] := by simpa using e.symm
            subst e2
            cases h2 with
            | cons _ h => exact absurd (h.subset (by simp)) m1
            | cons_cons _ h =>
              have := List.singleton_sublist.mp h
              exact ⟨this, fun z => m1 (z ▸ this)⟩
          | cons c s1 =>
            simp only [List.cons_append, List.cons.injEq] at e
            obtain ⟨rfl, _⟩ := e
            exact absurd (h1.subset (by simp)) hu
        · rintro ⟨ha, _⟩
          exact (List.Sublist.cons_cons _ (List.singleton_sublist.mpr ha)).trans (List.sublist_append_right _ _)
      constructor
      · rintro ⟨⟨h1, h2, h3, h4⟩, h5⟩
        have e : b = k := by simpa using h5
        subst e
        exact ⟨a, List.mem_filter.mpr ⟨(key.mp h4).1, decide_eq_true h2⟩, rfl⟩
      · rintro ⟨y, hy, e⟩
        cases e
        rw [List.mem_filter] at hy
        have h2 := of_decide_eq_true hy.2
        have ha := h.mem.mp (show a ∈ u ++ k :: v by simp [hy.1])
        have hk := h.mem.mp (show k ∈ u ++ k :: v by simp)
        exact ⟨⟨ha.1, h2, hk.2, key.mpr ⟨hy.1, by omega⟩⟩, by simp⟩
  unfold bhd
  rw [hp.length_eq, List.length_map]
end BL
set_option linter.all false
/-! k78: the row with some pairs, when there is one; in plain Lean. -/
namespace BL
theorem filt_le {k : Nat} {l : List Nat} (h : k ∉ l) : l.filter (fun y => decide (y ≤ k)) = l.filter fun y => decide (y < k) := List.filter_congr fun y hy => by
  have : y ≠ k := fun e => h (e ▸ hy)
  exact decide_eq_decide.mpr (by omega)
theorem rwB_self {n : Nat} {l : List Nat} (h : Row n l) : ∀ k, k ≤ n → rwB (prs n l) k = l.filter fun y => decide (y ≤ k)
  | 0, _ => by
    symm
    show l.filter _ = []
    rw [List.filter_eq_nil_iff]
    intro y hy
    have := (h.mem.mp hy).1
    simp; omega
  | k + 1, hk => by
    obtain ⟨u, v, rfl⟩ := List.append_of_mem (h.mem.mpr ⟨by omega, hk⟩ : k + 1 ∈ l)
    have hnd := h.nd
    obtain ⟨n1, n2, n3⟩ := List.nodup_append.mp hnd
    obtain ⟨m1, m2⟩ := List.nodup_cons.mp n2
    have hu : k + 1 ∉ u := fun z => n3 _ z _ List.mem_cons_self rfl
    have ih := rwB_self h k (by omega)
    have e0 : ∀ w : List Nat, w.filter (fun y => decide (y ≤ k)) = w.filter fun y => decide (y < k + 1) := fun w => List.filter_congr fun y _ => decide_eq_decide.mpr (by omega)
    have hb := bhd_of h
    have hl : (rwB (prs n (u ++ (k + 1) :: v)) k).length = k := (rwB_row _ k).len
    rw [rwB, hb]
    rw [ih, e0, List.filter_append, List.filter_cons_of_neg (by simp)] at hl ⊢
    rw [List.filter_append, List.filter_cons_of_pos (by simp), filt_le hu, filt_le m1]
    generalize u.filter (fun y => decide (y < k + 1)) = u1 at hl ⊢
    generalize v.filter (fun y => decide (y < k + 1)) = v1 at hl ⊢
    rw [List.length_append] at hl
    have : k - v1.length = u1.length := by omega
    unfold ins
    rw [this, List.take_left' rfl, List.drop_left' rfl]
theorem rwB_prs {n : Nat} {l : List Nat} (h : Row n l) : rwB (prs n l) n = l := by rw [rwB_self h n (Nat.le_refl n), filt_all h]
/-! which lists are those of a row -/
def Clo (n : Nat) (t : List (Nat × Nat)) : Prop := ∀ a b c, 1 ≤ a → a < b → b < c → c ≤ n → ((a, b) ∈ t → (b, c) ∈ t → (a, c) ∈ t) ∧ ((a, c) ∈ t → (a, b) ∈ t ∨ (b, c) ∈ t)
theorem bf_trans {l : List Nat} {x y z : Nat} (hn : l.Nodup) (hxy : x ≠ y) (hyz : y ≠ z) (hxz : x ≠ z) (h1 : bf l x y) (h2 : bf l y z) : bf l x z := by
  have hy : y ∈ l := h1.subset (by simp)
  have hz : z ∈ l := h2.subset (by simp)
  rw [bf_ix hn hxy hy] at h1
  rw [bf_ix hn hyz hz] at h2
  rw [bf_ix hn hxz hz]
  omega
theorem clo_prs {n : Nat} {l : List Nat} (h : Row n l) : Clo n (prs n l) := fun a b c h1 h2 h3 h4 => by
  rw [mem_prs h, mem_prs h, mem_prs h]
  refine ⟨fun p q => ⟨h1, by omega, h4, bf_trans h.nd (by omega) (by omega) (by omega) q.2.2.2 p.2.2.2⟩, fun p => ?_⟩
  by_cases c1 : bf l b a
  · exact .inl ⟨h1, h2, by omega, c1⟩
  · refine .inr ⟨by omega, h3, h4, ?_⟩
    have ma : a ∈ l := h.mem.mpr ⟨h1, by omega⟩
    have mb : b ∈ l := h.mem.mpr ⟨by omega, by omega⟩
    have c2 := (bf_total h.nd (by omega : b ≠ a) mb ma).mp c1
    exact bf_trans h.nd (by omega) (by omega) (by omega) p.2.2.2 c2
/-- where those that S takes stand behind the others, they are the end -/
theorem seg (S : Nat → Bool) : ∀ {l : List Nat}, (∀ x y, bf l x y → S x = true → S y = true) → l.drop (l.length - (l.filter S).length) = l.filter S ∧ ∀ x ∈ l.take (l.length - (l.filter S).length), S x = false
  | [], _ => ⟨rfl, fun _ h => nomatch h⟩
  | x :: r, h => by
    have hr := seg S (l := r) fun a b hab => h a b (List.Sublist.cons _ hab)
    have hl : (r.filter S).length ≤ r.length := List.length_filter_le _ _
    cases e : S x with
    | true =>
      have hall : ∀ y ∈ r, S y = true := fun y hy => h x y (List.Sublist.cons_cons _ (List.singleton_sublist.mpr hy)) e
      have e2 : (x :: r).filter S = x :: r := List.filter_eq_self.mpr fun y hy => by
        rcases List.mem_cons.mp hy with rfl | hy
        · exact e
        · exact hall y hy
      rw [e2, Nat.sub_self]
      exact ⟨rfl, fun _ h => nomatch h⟩
    | false =>
      rw [List.filter_cons_of_neg (by rw [e]; exact Bool.false_ne_true), List.length_cons, show r.length + 1 - (r.filter S).length = (r.length - (r.filter S).length) + 1 by omega]
      refine ⟨hr.1, fun y hy => ?_⟩
      rw [List.take_succ_cons] at hy
      rcases List.mem_cons.mp hy with rfl | hy
      · exact e
      · exact hr.2 y hy
theorem bhd_mem {n k : Nat} {t : List (Nat × Nat)} (hs : t.Sublist (evr n)) {r : List Nat} (hr : Row k r) : bhd t (k + 1) = (r.filter fun a => decide ((a, k + 1) ∈ t)).length := by
  have hnd : t.Nodup := (asc_nodup (evr_asc n)).sublist hs
  have hp : (t.filter fun p => p.2 == k + 1).Perm ((r.filter fun a => decide ((a, k + 1) ∈ t)).map fun a => (a, k + 1)) := by
    refine (List.perm_ext_iff_of_nodup (hnd.sublist List.filter_sublist) ?_).mpr ?_
    · have : (r.filter fun a => decide ((a, k + 1) ∈ t)).Nodup := hr.nd.sublist List.filter_sublist
      unfold List.Nodup at this ⊢
      rw [List.pairwise_map]
      exact this.imp fun {a b} h e => h (by cases e; rfl)
    · rintro ⟨a, b⟩
      rw [List.mem_filter, List.mem_map]
      constructor
      · rintro ⟨h1, h2⟩
        have e : b = k + 1 := by simpa using h2
        subst e
        have := mem_evr.mp (hs.subset h1)
        exact ⟨a, List.mem_filter.mpr ⟨hr.mem.mpr ⟨this.1, by have := this.2.1; simp at this; omega⟩, decide_eq_true h1⟩, rfl⟩
      · rintro ⟨y, hy, e⟩
        cases e
        rw [List.mem_filter] at hy
        exact ⟨of_decide_eq_true hy.2, by simp⟩
  unfold bhd
  rw [hp.length_eq, List.length_map]
theorem bf_ins {u v : List Nat} {k a b : Nat} (ha : a ≠ k) (hb : b ≠ k) : bf (u ++ k :: v) a b ↔ bf (u ++ v) a b := by
  unfold bf
  constructor
  · intro h
    have this := h.filter fun z => z != k
    have e1 : [a, b].filter (fun z => z != k) = [a, b] := List.filter_eq_self.mpr fun z hz => by
      rcases List.mem_cons.mp hz with rfl | hz
      · simpa using ha
      · rw [List.mem_singleton.mp hz]; simpa using hb
    have e2 : (u ++ k :: v).filter (fun z => z != k) = (u ++ v).filter fun z => z != k := by
      rw [List.filter_append, List.filter_append, List.filter_cons_of_neg (by simp)]
    rw [e1, e2] at this
    exact this.trans List.filter_sublist
  · intro h
    exact h.trans (List.Sublist.append_left (List.sublist_cons_self _ _) _)
theorem rwB_bf {n : Nat} {t : List (Nat × Nat)} (hs : t.Sublist (evr n)) (hc : Clo n t) : ∀ k, k ≤ n → ∀ a b, 1 ≤ a → a < b → b ≤ k → (bf (rwB t k) b a ↔ (a, b) ∈ t)
  | 0, _, a, b, h1, h2, h3 => by omega
  | k + 1, hk, a, b, h1, h2, h3 => by
    have ih := rwB_bf hs hc k (by omega)
    have hr := rwB_row t k
    have hb := bhd_mem hs hr
    have sg := seg (fun a => decide ((a, k + 1) ∈ t)) (l := rwB t k) fun x y hxy hx => by
      have mx : x ∈ rwB t k := hxy.subset (by simp)
      have my : y ∈ rwB t k := hxy.subset (by simp)
      have bx := hr.mem.mp mx
      have by' := hr.mem.mp my
      have hx2 : (x, k + 1) ∈ t := of_decide_eq_true hx
      refine decide_eq_true ?_
      by_cases e : x = y
      · exact e ▸ hx2
      · by_cases c : x < y
        · have : (x, y) ∉ t := fun z => by
            have h4 := (ih x y bx.1 c by'.2).mpr z
            exact (bf_total hr.nd e mx my).mpr h4 hxy
          exact ((hc x y (k + 1) bx.1 c (by omega) hk).2 hx2).resolve_left this
        · have h4 := (ih y x by'.1 (by omega) bx.2).mp hxy
          exact (hc y x (k + 1) by'.1 (by omega) (by omega) hk).1 h4 hx2
    rw [← hb, hr.len] at sg
    have hrow : Row (k + 1) (rwB t (k + 1)) := rwB_row t (k + 1)
    by_cases e : b = k + 1
    · subst e
      have ma : a ∈ rwB t k := hr.mem.mpr ⟨h1, by omega⟩
      have hnd := hrow.nd
      show bf ((rwB t k).take (k - bhd t (k + 1)) ++ (k + 1) :: (rwB t k).drop (k - bhd t (k + 1))) (k + 1) a ↔ _
      have hnd2 : ((rwB t k).take (k - bhd t (k + 1)) ++ (k + 1) :: (rwB t k).drop (k - bhd t (k + 1))).Nodup := hnd
      rw [sg.1] at hnd2 ⊢
      constructor
      · intro h
        refine Classical.byContradiction fun z => ?_
        have m2 : a ∉ (rwB t k).filter fun a => decide ((a, k + 1) ∈ t) := fun w => z (of_decide_eq_true (List.mem_filter.mp w).2)
        obtain ⟨s1, s2, e, g1, g2⟩ := List.sublist_append_iff.mp h
        have hk1 : k + 1 ∉ (rwB t k).take (k - bhd t (k + 1)) := fun w => by
          have := hr.mem.mp (List.mem_of_mem_take w)
          omega
        cases s1 with
        | nil =>
          have e2 : s2 = [k + 1, a] := by simpa using e.symm
          subst e2
          cases g2 with
          | cons _ g => exact m2 (g.subset (by simp))
          | cons_cons _ g => exact m2 (List.singleton_sublist.mp g)
        | cons c s1 =>
          simp only [List.cons_append, List.cons.injEq] at e
          obtain ⟨rfl, _⟩ := e
          exact hk1 (g1.subset (by simp))
      · intro h
        exact (List.Sublist.cons_cons _ (List.singleton_sublist.mpr (List.mem_filter.mpr ⟨ma, decide_eq_true h⟩))).trans (List.sublist_append_right _ _)
    · rw [← ih a b h1 h2 (by omega)]
      show bf ((rwB t k).take (k - bhd t (k + 1)) ++ (k + 1) :: (rwB t k).drop (k - bhd t (k + 1))) b a ↔ _
      rw [bf_ins e (by omega), List.take_append_drop]
theorem sub_filter : ∀ {l t : List (Nat × Nat)}, t.Sublist l → l.Nodup → l.filter (fun p => decide (p ∈ t)) = t
  | _, _, .slnil, _ => rfl
  | _, t, .cons (l₂ := l) a h, hn => by
    obtain ⟨m1, m2⟩ := List.nodup_cons.mp hn
    have : a ∉ t := fun z => m1 (h.subset z)
    rw [List.filter_cons_of_neg (by simpa using this)]
    exact sub_filter h m2
  | _, _, .cons_cons (l₁ := t) (l₂ := l) a h, hn => by
    obtain ⟨m1, m2⟩ := List.nodup_cons.mp hn
    rw [List.filter_cons_of_pos (by simp)]
    congr 1
    conv => rhs; rw [← sub_filter h m2]
    refine List.filter_congr fun p hp => decide_eq_decide.mpr ?_
    have : p ≠ a := fun e => m1 (e ▸ hp)
    simp [this]
/-- exactly the lists that break no rule are those of a row -/
theorem prs_iff {n : Nat} {t : List (Nat × Nat)} (hs : t.Sublist (evr n)) : prs n (rwB t n) = t ↔ Clo n t := by
  have hr := rwB_row t n
  constructor
  · intro e
    rw [← e]
    exact clo_prs hr
  · intro hc
    have hm := rwB_bf hs hc n (Nat.le_refl n)
    have e : prs n (rwB t n) = (evr n).filter fun p => decide (p ∈ t) := by
      unfold prs
      refine List.filter_congr fun p hp => ?_
      obtain ⟨h1, h2, h3⟩ := mem_evr.mp hp
      refine decide_eq_decide.mpr ?_
      rw [← bf_ix hr.nd (Nat.ne_of_gt h2) (hr.mem.mpr ⟨h1, by omega⟩)]
      exact hm p.1 p.2 h1 h2 h3
    rw [e]
    exact sub_filter hs (asc_nodup (evr_asc n))
end BL
set_option Elab.async false
set_option linter.all false
set_option maxRecDepth 100000
set_option maxHeartbeats 4000000
/-! k78: pairs as data. -/
namespace BL
open PySem PySem.Spec PyProof.Rows L2 BD
instance (p q : Nat × Nat) : Decidable (plt p q) := inferInstanceAs (Decidable (_ ∨ _))
def kP (p : Nat × Nat) : D := .ks [iD p.1, iD p.2]
def pT (p : Nat × Nat) : D := .tup [iD p.1, iD p.2]
theorem wk_kP (p : Nat × Nat) : BD.wk (kP p) = pT p := rfl
theorem wk_kPs (ps : List (Nat × Nat)) : (ps.map kP).map BD.wk = ps.map pT := by
  rw [List.map_map]; rfl
theorem le_kP (a b : Nat × Nat) : leW (kP a) (kP b) = !decide (plt b a) := by
  show PySem.W.dataLe false py (pT a) (pT b) = _
  rw [PySem.W.dataLe_eq]
  show (!PySem.W.dataLt (.tuple [.int (b.1 : Nat), .int (b.2 : Nat)]) (.tuple [.int (a.1 : Nat), .int (a.2 : Nat)])) = _
  rw [PySem.W.dataLt_ii]
  congr 1
  refine decide_eq_decide.mpr ?_
  unfold plt
  omega
theorem plt_antisymm {a b : Nat × Nat} (h1 : ¬ plt a b) (h2 : ¬ plt b a) : a = b := by
  unfold plt at h1 h2
  refine Prod.ext ?_ ?_ <;> omega
theorem sortW_kP (ps : List (Nat × Nat)) : sortW (ps.map kP) = (ps.mergeSort fun a b => !decide (plt b a)).map kP := by
  unfold sortW
  rw [List.map_mergeSort (s := leW)]
  intro a _ b _
  exact (le_kP a b).symm
theorem sorted_prs {ps qs : List (Nat × Nat)} (hq : qs.Pairwise plt) (hp : ps.Perm qs) : (ps.mergeSort fun a b => !decide (plt b a)) = qs := by
  have s1 : (ps.mergeSort fun a b => !decide (plt b a)).Pairwise fun a b => (!decide (plt b a)) = true := by
    refine List.pairwise_mergeSort ?_ ?_ ps
    · intro a b c h1 h2
      simp only [Bool.not_eq_true', decide_eq_false_iff_not] at h1 h2 ⊢
      unfold plt at *
      omega
    · intro a b
      by_cases c : plt b a
      · have : ¬ plt a b := by unfold plt at *; omega
        simp [c, this]
      · simp [c]
  have s2 : qs.Pairwise fun a b => (!decide (plt b a)) = true := hq.imp fun {a b} h => by
    have : ¬ plt b a := by unfold plt at *; omega
    simp [this]
  refine List.Perm.eq_of_pairwise ?_ s1 s2 ((List.mergeSort_perm ps _).trans hp)
  intro a b _ _ h1 h2
  simp only [Bool.not_eq_true', decide_eq_false_iff_not] at h1 h2
  exact plt_antisymm h2 h1
theorem sort_unl {n : Nat} {l : List Nat} (h : Row n l) : sortW ((unl l).map kP) = (prs n l).map kP := by
  rw [sortW_kP, sorted_prs ((evr_asc n).filter _) (unl_prs h)]
  rfl
theorem sok_pT {ps : List (Nat × Nat)} (h : ps.length ≤ 10000) : SOk ((ps.map kP).map BD.wk) := by
  have e24 : sizeLine = 16777216 := by decide
  rw [wk_kPs]
  have := sok_tupI (rs := ps.map fun p => [(p.1 : Int), (p.2 : Int)]) (by rw [List.length_map]; omega) fun r hr => by
    obtain ⟨p, _, rfl⟩ := List.mem_map.mp hr
    exact fun z => nomatch z
  rw [List.map_map] at this
  exact this
def uz (full : List Nat) (p : Nat × Nat) : List (Nat × Nat) := ((full.drop (p.2 + 1)).filter fun y => decide (y < p.1)).map fun y => (y, p.1)
theorem uz_all : ∀ (l full : List Nat) (s : Nat), full.drop s = l → (l.zipIdx s).flatMap (uz full) = unl l
  | [], _, _, _ => rfl
  | x :: l, full, s, h => by
    have h2 : full.drop (s + 1) = l := by rw [← List.drop_drop, h]; rfl
    rw [List.zipIdx_cons, List.flatMap_cons, uz_all l full (s + 1) h2, unl]
    show ((full.drop (s + 1)).filter _).map _ ++ _ = _
    rw [h2]
theorem evr_len {n : Nat} (h : n ≤ 7) : (evr n).length ≤ 21 := by
  have : n = 0 ∨ n = 1 ∨ n = 2 ∨ n = 3 ∨ n = 4 ∨ n = 5 ∨ n = 6 ∨ n = 7 := by omega
  rcases this with rfl | rfl | rfl | rfl | rfl | rfl | rfl | rfl <;> decide
theorem prs_len {n : Nat} {l : List Nat} (h : n ≤ 7) : (prs n l).length ≤ 21 := Nat.le_trans (List.length_filter_le _ _) (evr_len h)
theorem eq_pT (p q : Nat × Nat) : D.eq (pT p) (pT q) = (p == q) := by
  show (((p.1 : Int) == (q.1 : Int)) && (((p.2 : Int) == (q.2 : Int)) && true)) = (p == q)
  rw [Bool.eq_iff_iff]
  simp only [Bool.and_eq_true, beq_iff_eq, and_true]
  constructor
  · rintro ⟨h1, h2⟩
    exact Prod.ext (by omega) (by omega)
  · rintro rfl; exact ⟨rfl, rfl⟩
theorem eqs_pT : ∀ ps qs : List (Nat × Nat), D.eqs (ps.map pT) (qs.map pT) = (ps == qs)
  | [], [] => rfl
  | [], _ :: _ => rfl
  | _ :: _, [] => rfl
  | p :: ps, q :: qs => by
    rw [List.map_cons, List.map_cons, D.eqs, eqs_pT ps qs, eq_pT]
    rfl
theorem any_pT (ps : List (Nat × Nat)) (p : Nat × Nat) : ((ps.map pT).any fun z => D.eq z (pT p)) = decide (p ∈ ps) := by
  rw [Bool.eq_iff_iff, decide_eq_true_eq, List.any_eq_true]
  constructor
  · rintro ⟨z, hz, e⟩
    obtain ⟨q, hq, rfl⟩ := List.mem_map.mp hz
    rw [eq_pT, beq_iff_eq] at e
    exact e ▸ hq
  · intro h
    exact ⟨pT p, List.mem_map_of_mem h, by rw [eq_pT, beq_self_eq_true]⟩
theorem okd_pT (n : Nat) (p : Nat × Nat) : okd (n + 1) (pT p) = true := by cases n <;> rfl
theorem okd_pTs (n : Nat) (ps : List (Nat × Nat)) : (ps.map pT).all (okd (n + 1)) = true := by
  rw [List.all_eq_true]
  intro d hd
  obtain ⟨p, _, rfl⟩ := List.mem_map.mp hd
  exact okd_pT n p
theorem cok_pTs (ps qs : List (Nat × Nat)) : cok (.lst (ps.map pT)) (.lst (qs.map pT)) = true := by
  unfold cok
  rw [show okd 60 (.lst (ps.map pT)) = (ps.map pT).all (okd 59) from rfl, show okd 60 (.lst (qs.map pT)) = (qs.map pT).all (okd 59) from rfl, okd_pTs, okd_pTs, Bool.and_true, Bool.or_true]
theorem wks_kP (ps : List (Nat × Nat)) : wks (ps.map kP) = ps.map pT := by rw [wks_map, wk_kPs]
theorem wks_pT (ps : List (Nat × Nat)) : wks (ps.map pT) = ps.map pT := by
  rw [wks_map, List.map_map]
  rfl
theorem oks_pTs {ps : List (Nat × Nat)} (h : ps.length ≤ 1000) : oks 2 (.lst (ps.map pT)) = true := by
  have e24 : sizeLine = 16777216 := by decide
  show (decide ((ps.map pT).length ≤ sizeLine) && (ps.map pT).all (oks 1)) = true
  rw [Bool.and_eq_true, decide_eq_true_eq, List.length_map]
  refine ⟨by omega, List.all_eq_true.mpr fun d hd => ?_⟩
  obtain ⟨p, _, rfl⟩ := List.mem_map.mp hd
  show (decide (2 ≤ sizeLine) && true) = true
  rw [e24]; rfl
end BL
set_option Elab.async false
set_option linter.all false
set_option maxRecDepth 100000
set_option maxHeartbeats 4000000
namespace BL
open PySem PySem.Spec PyProof.Rows L2 BD
def topS (i : Nat) : Stmt := PySem.Challenge.pw_bellring_k78_whole_unlike_pairs.main.body.getD i (.Pass ⟨0, 0, 0, 0⟩)
section
variable {P : Program} {w : World} {K : PySem.W.Frag} {mg : Str → Option Value} {base : Heap}
abbrev s_l_mixed : Stmt := topS 8
abbrev N_l_mixed : List Str := ["number", "place", "first", "second", "third"]
theorem sc_l_mixed : FnScope N_l_mixed ["number", "place"] (defScope s_l_mixed) := ⟨rfl, rfl, rfl, by decide +kernel, rfl, by decide +kernel, by decide +kernel⟩
theorem C_l_mixed (bi : Bi mg) (Df : DefAt K mg "_law_mixed" s_l_mixed ["number", "place"]) : Cal P w K mg base true "_law_mixed" 1 F_mixed :=
  cal_ok Df sc_l_mixed (fun cs post h => by obtain ⟨n, p, rfl, _⟩ := h; rfl) fun f cdv A outer s H E hr => ⟨_, (sss_cons (ss_asg (se_bin ob_mod (se_callTy cb_int (by rfl) bi.int boot_int (sr_cons (se_bin ob_add (se_bin ob_add (se_bin ob_mul (sv 0) se_int) (se_bin ob_mul (sv 1) se_int)) se_int) sr_nil)) se_int) (sg_v 2 sc_l_mixed.nd))
    (sss_cons (ss_asg (se_bin ob_mod (se_callTy cb_int (by rfl) bi.int boot_int (sr_cons (se_bin ob_add (se_bin ob_add (se_bin ob_mul (sv 2) (sv 2)) (se_bin ob_mul se_int (sv 2))) (sv 1)) sr_nil)) se_int) (sg_v 3 sc_l_mixed.nd))
    (sss_cons (ss_asg (se_bin ob_mod (se_callTy cb_int (by rfl) bi.int boot_int (sr_cons (se_bin ob_add (se_bin ob_mul (sv 3) (sv 3)) (sv 2)) sr_nil)) se_int) (sg_v 4 sc_l_mixed.nd))
    (sss_one (ss_ret (se_bin ob_add (se_bin ob_mul (sv 3) se_int) (sv 4))))))), fun cs post h => by
    obtain ⟨n, p, rfl, hn, bn, hp, bp, k⟩ := h
    have b1 : ib ((n * 48271 + p * 69621 + 11) % 618970019642690137449562111) ≤ 90 := ib_mod (by decide) (by decide)
    refine ⟨mulX bn (m := 20) (by decide), ⟨mulX bp (m := 20) (by decide), ⟨by decide, trivial, ?_⟩⟩⟩
    revert b1
    generalize (n * 48271 + p * 69621 + 11) % 618970019642690137449562111 = x
    intro b1
    refine ⟨mulX b1 b1, ⟨mulX (n := 20) (by decide) b1, ⟨by decide, trivial, ?_⟩⟩⟩
    have h2 : ib ((x * x + 7 * x + p) % 162259276829213363391578010288127) ≤ 110 := ib_mod (by decide) (by decide)
    have p2 : 0 ≤ ((x * x + 7 * x + p) % 162259276829213363391578010288127) := Int.emod_nonneg _ (by decide)
    revert h2 p2
    generalize ((x * x + 7 * x + p) % 162259276829213363391578010288127) = y
    intro h2 p2
    refine ⟨mulX h2 h2, ⟨by decide, trivial, ?_⟩⟩
    have h3 : ib ((y * y + x) % 618970019642690137449562111) ≤ 90 := ib_mod (by decide) (by decide)
    have p3 : 0 ≤ ((y * y + x) % 618970019642690137449562111) := Int.emod_nonneg _ (by decide)
    revert h3 p3
    generalize ((y * y + x) % 618970019642690137449562111) = z
    intro h3 p3
    refine ⟨mulX h2 (m := 90) (by decide), k _ ?_ ?_⟩
    · exact Int.add_nonneg (Int.mul_nonneg p2 (by decide)) p3
    · exact ib_le (ib_add (ib_mul h2 (m := 90) (by decide)) (ib_le h3 (m := 200)))⟩
abbrev s_l_rest : Stmt := topS 9
abbrev N_l_rest : List Str := ["script", "place", "fills", "number"]
theorem sc_l_rest : FnScope N_l_rest ["script", "place", "fills"] (defScope s_l_rest) := ⟨rfl, rfl, rfl, by decide +kernel, rfl, by decide +kernel, by decide +kernel⟩
theorem C_l_rest (bi : Bi mg) (C_l_mixed : Cal P w K mg base true "_law_mixed" 1 F_mixed) (Df : DefAt K mg "_law_rest" s_l_rest ["script", "place", "fills"]) : Cal P w K mg base true "_law_rest" 2 F_rest :=
  cal_ok Df sc_l_rest (fun cs post h => by obtain ⟨ns, p, g, rfl, _⟩ := h; rfl) fun f cdv A outer s H E hr => ⟨_, (sss_cons (ss_asg se_int (sg_v 3 sc_l_rest.nd))
    (sss_cons (ss_if (st_cmp ob_gt (se_callB cb_len (by rfl) bi.len PySem.boot_len (sr_cons (sv 0) sr_nil)) se_int)
    (sss_one (ss_asg (se_callTy cb_int (by rfl) bi.int boot_int (sr_cons (se_ix (sv 0) (se_bin ob_mod (se_callTy cb_int (by rfl) bi.int boot_int (sr_cons (sv 1) sr_nil)) (se_callB cb_len (by rfl) bi.len PySem.boot_len (sr_cons (sv 0) sr_nil)))) sr_nil)) (sg_v 3 sc_l_rest.nd)))
    sss_nil)
    (sss_cons (ss_if (st_cmp ob_lt (sv 3) se_int)
    (sss_one (ss_asg (se_bin ob_sub se_int (se_bin ob_mul se_int (sv 3))) (sg_v 3 sc_l_rest.nd)))
    sss_nil)
    (sss_cons (ss_if (sw_and (st_cmp (ob_eq hr.units) (sv 2) se_int) (sw_and (st_cmp ob_lt (sv 1) (se_callB cb_len (by rfl) bi.len PySem.boot_len (sr_cons (sv 0) sr_nil))) (sw_and1 (st_cmp ob_ge (sv 3) (se_bin ob_pow se_int se_int))))).st
    (sss_one (ss_ret (se_bin ob_sub (sv 3) (se_bin ob_pow se_int se_int))))
    sss_nil)
    (sss_one (ss_ret (se_callC none C_l_mixed (hr.mono (by first | decide | omega)) (by rfl) (sr_cons (se_bin ob_add (sv 3) (se_bin ob_mul (sv 2) se_int)) (sr_cons (sv 1) sr_nil))))))))), fun cs post h => by
    obtain ⟨ns, p, g, rfl, hl, hb, hp, bp, hg, bg, k⟩ := h
    refine ⟨trivial, ?_⟩
    dsimp only
    refine seqJoin (fun E' => ∃ x : Int, E' = [.val (.scr ns), .val (.int p), .val (.int g), .val (.int x)] ∧ ib x ≤ 1048576) ?_ fun j => ?_
    rotate_left
    · refine iteD (fun h => ?_) fun h => j _ ⟨0, rfl, by decide⟩
      have hn : (0 : Int) < ns.length := h
      obtain ⟨x, h1, _, h3⟩ := atI_in (xs := ns) (i := p % ns.length) (Int.emod_nonneg _ (by omega)) (Int.emod_lt_of_pos _ hn)
      exact ⟨hn, x, h1, trivial, j _ ⟨x, rfl, hb x h3⟩⟩
    rintro E1 ⟨x, rfl, hx⟩
    refine seqJoin (fun E' => ∃ x : Int, E' = [.val (.scr ns), .val (.int p), .val (.int g), .val (.int x)] ∧ 0 ≤ x ∧ ib x ≤ 1048579) ?_ fun j => ?_
    rotate_left
    · refine iteD (fun h => ?_) fun h => j _ ⟨x, rfl, by omega, ib_le hx⟩
      refine ⟨mulX (n := 2) (by decide) hx, trivial, j _ ⟨1 - 2 * x, rfl, by omega, ?_⟩⟩
      exact ib_le (ib_sub (n := 1048578) (by decide) (ib_le (ib_mul (n := 2) (x := 2) (by decide) hx)))
    rintro E1 ⟨x, rfl, p0, hx⟩
    refine seqJoin (fun E' => E' = [.val (.scr ns), .val (.int p), .val (.int g), .val (.int x)]) ?_ fun j => ?_
    rotate_left
    · refine ⟨rfl, iteB (fun h => iteD (fun h2 => ⟨by unfold CPow; decide, iteD (fun h3 => ?_) fun _ => j _ rfl⟩) fun _ => j _ rfl) fun _ => j _ rfl⟩
      have h4 : (10 : Int) ^ 18 ≤ x := h3
      have e4 : (10 : Int) ^ 18 = 1000000000000000000 := by decide
      refine ⟨by unfold CPow; decide, k _ ?_ (ib_le (ib_sub hx (ib_le (n := 60) (by decide))))⟩
      show 0 ≤ x - (10 : Int) ^ 18
      omega
    rintro E1 rfl
    refine ⟨mulX (m := 20) bg (by decide), x + g * 1000003, p, rfl, ?_, ?_, hp, bp, fun r h1 h2 => k r h1 (ib_le h2)⟩
    · exact Int.add_nonneg p0 (Int.mul_nonneg hg (by decide))
    · exact ib_le (ib_add hx (ib_le (ib_mul bg (m := 20) (by decide))))⟩
abbrev s_l_pool : Stmt := topS 10
abbrev N_l_pool : List Str := ["script"]
theorem sc_l_pool : FnScope N_l_pool ["script"] (defScope s_l_pool) := ⟨rfl, rfl, rfl, by decide +kernel, rfl, by decide +kernel, by decide +kernel⟩
theorem C_l_pool (bi : Bi mg) (C_l_rest : Cal P w K mg base true "_law_rest" 2 F_rest) (Df : DefAt K mg "_law_pool" s_l_pool ["script"]) : Cal P w K mg base true "_law_pool" 3 F_pool :=
  cal_ok Df sc_l_pool (fun cs post h => by obtain ⟨ns, rfl, _⟩ := h; rfl) fun f cdv A outer s H E hr => ⟨_, (sss_one (ss_ret (se_lst (sa_cons (sv 0) (sa_cons se_int (sa_cons (se_callC none C_l_rest (hr.mono (by first | decide | omega)) (by rfl) (sr_cons (sv 0) (sr_cons se_int (sr_cons se_int sr_nil)))) (sa_cons se_int sa_nil))))))), fun cs post h => by
    obtain ⟨ns, rfl, hl, hb, k⟩ := h
    exact ⟨ns, 0, 0, rfl, hl, hb, by decide, by decide, by decide, by decide, fun r r0 rb => ⟨by show 4 ≤ sizeLine; decide, k _ ⟨ns, 0, r, 0, rfl, hl, hb, by decide, by decide, r0, rb, by decide, by decide⟩⟩⟩⟩
abbrev s_l_next : Stmt := topS 11
abbrev N_l_next : List Str := ["pool"]
theorem sc_l_next : FnScope N_l_next ["pool"] (defScope s_l_next) := ⟨rfl, rfl, rfl, by decide +kernel, rfl, by decide +kernel, by decide +kernel⟩
theorem C_l_next (bi : Bi mg) (C_l_rest : Cal P w K mg base true "_law_rest" 2 F_rest) (Df : DefAt K mg "_law_next" s_l_next ["pool"]) : Cal P w K mg base true "_law_next" 3 F_next :=
  cal_ok Df sc_l_next (fun cs post h => by obtain ⟨t, d, rfl, _⟩ := h; rfl) fun f cdv A outer s H E hr => ⟨_, (sss_cons (ss_asg (se_bin ob_add (se_ix (sv 0) se_int) se_int) (sg_sub 0 se_int))
    (sss_cons (ss_asg (se_callC none C_l_rest (hr.mono (by first | decide | omega)) (by rfl) (sr_cons (se_ix (sv 0) se_int) (sr_cons (se_ix (sv 0) se_int) (sr_cons se_int sr_nil)))) (sg_sub 0 se_int))
    (sss_one (ss_asg se_int (sg_sub 0 se_int))))), fun cs post h => by
    obtain ⟨t, d, rfl, ⟨ns, p, r, g, rfl, ok⟩, ht, k⟩ := h
    have ht' : t ≤ 1000000 := ht
    have hp : ib (p + 1) ≤ 100 := ib_le (n := 30) (ib_nat (by have := ok.p0; omega) (by have := ok.pt; omega))
    have p0 := ok.p0
    have pt := ok.pt
    exact ⟨_, rfl, _, rfl, _, rfl, _, rfl, ns, p + 1, 0, rfl, ok.len, ok.bits, by omega, hp, by decide, by decide, fun r' h1 h2 => ⟨_, rfl, _, rfl, k _ ⟨ns, p + 1, r', 0, rfl, ok.len, ok.bits, by omega, by omega, h1, h2, by decide, by omega⟩⟩⟩⟩
abbrev s_l_draw : Stmt := topS 12
abbrev N_l_draw : List Str := ["pool", "limit", "value"]
theorem sc_l_draw : FnScope N_l_draw ["pool", "limit"] (defScope s_l_draw) := ⟨rfl, rfl, rfl, by decide +kernel, rfl, by decide +kernel, by decide +kernel⟩
theorem C_l_draw (bi : Bi mg) (C_l_rest : Cal P w K mg base true "_law_rest" 2 F_rest) (Df : DefAt K mg "_law_draw" s_l_draw ["pool", "limit"]) : Cal P w K mg base true "_law_draw" 3 F_draw :=
  cal_ok Df sc_l_draw (fun cs post h => by obtain ⟨t, d, l, rfl, _⟩ := h; rfl) fun f cdv A outer s H E hr => ⟨_, (sss_cons (ss_if (st_cmp ob_le (se_ix (sv 0) se_int) se_int)
    (sss_cons (ss_asg (se_bin ob_add (se_ix (sv 0) se_int) se_int) (sg_sub 0 se_int))
    (sss_one (ss_asg (se_callC none C_l_rest (hr.mono (by first | decide | omega)) (by rfl) (sr_cons (se_ix (sv 0) se_int) (sr_cons (se_ix (sv 0) se_int) (sr_cons (se_ix (sv 0) se_int) sr_nil)))) (sg_sub 0 se_int))))
    sss_nil)
    (sss_cons (ss_asg (se_bin ob_mod (se_callTy cb_int (by rfl) bi.int boot_int (sr_cons (se_ix (sv 0) se_int) sr_nil)) (sv 1)) (sg_v 2 sc_l_draw.nd))
    (sss_cons (ss_asg (se_bin ob_fdiv (se_callTy cb_int (by rfl) bi.int boot_int (sr_cons (se_ix (sv 0) se_int) sr_nil)) (sv 1)) (sg_sub 0 se_int))
    (sss_one (ss_ret (sv 2)))))), fun cs post h => by
    obtain ⟨t, d, l, rfl, ⟨ns, p, r, g, rfl, ok⟩, ht, hl, bl, k⟩ := h
    have ht' : t ≤ 1000000 := ht
    have p0 := ok.p0
    have pt := ok.pt
    have f0 := ok.f0
    have ft := ok.ft
    have bp : ib p ≤ 100 := ib_le (n := 30) (ib_nat p0 (by omega))
    have bg : ib (g + 1) ≤ 100 := ib_le (n := 30) (ib_nat (by omega) (by omega))
    refine seqJoin (fun E' => ∃ r g : Int, E' = [.bor (poolD ns p r g), .val (.int l), .un] ∧ PoolOk (t + 1) ns p r g) ?_ fun j => ?_
    rotate_left
    · refine ⟨_, rfl, iteD (fun h => ?_) fun h => j _ ⟨r, g, rfl, ok.len, ok.bits, p0, by omega, ok.r0, ok.rb, f0, by omega⟩⟩
      exact ⟨_, rfl, _, rfl, _, rfl, _, rfl, _, rfl, ns, p, g + 1, rfl, ok.len, ok.bits, p0, bp, by omega, bg, fun r' h1 h2 => ⟨_, rfl, j _ ⟨r', g + 1, rfl, ok.len, ok.bits, p0, by omega, h1, h2, by omega, by omega⟩⟩⟩
    rintro E1 ⟨r, g, rfl, ok⟩
    refine ⟨_, rfl, hl, trivial, _, rfl, .inl ⟨⟨hl, ?_⟩, _, rfl, k _ _ ⟨ns, p, r / l, g, rfl, ok.len, ok.bits, p0, ok.pt, Int.ediv_nonneg ok.r0 (Int.le_of_lt hl), ib_div ok.r0 hl ok.rb, ok.f0, ok.ft⟩ (Int.emod_nonneg _ (by omega)) (Int.emod_lt_of_pos _ hl)⟩⟩
    have := ib_iff.mp bl
    exact (Nat.log2_lt (by omega)).mpr (Nat.lt_of_lt_of_le this (Nat.pow_le_pow_right (by decide) (by decide)))⟩
abbrev s_l_pick : Stmt := topS 18
abbrev N_l_pick : List Str := ["pool", "options"]
theorem sc_l_pick : FnScope N_l_pick ["pool", "options"] (defScope s_l_pick) := ⟨rfl, rfl, rfl, by decide +kernel, rfl, by decide +kernel, by decide +kernel⟩
theorem C_l_pick (bi : Bi mg) (C_l_draw : Cal P w K mg base true "_law_draw" 3 F_draw) (Df : DefAt K mg "_law_pick" s_l_pick ["pool", "options"]) : Cal P w K mg base true "_law_pick" 4 F_pick :=
  cal_ok Df sc_l_pick (fun cs post h => by obtain ⟨t, d, c, xs, rfl, _⟩ := h; rfl) fun f cdv A outer s H E hr => ⟨_, (sss_one (ss_ret (se_ix (sv 1) (se_callC (some (0, 0)) C_l_draw (hr.mono (by first | decide | omega)) (by rfl) (sr_cons (sv 0) (sr_cons (se_callB cb_len (by rfl) bi.len PySem.boot_len (sr_cons (sv 1) sr_nil)) sr_nil)))))), fun cs post h => by
    obtain ⟨t, d, c, xs, rfl, hc, hP, ht, h0, hl, k⟩ := h
    have hp : 0 < xs.length := List.length_pos_iff.mpr h0
    have e24 : sizeLine = 16777216 := by decide
    have go : ∀ d' v, Pool (t + 1) d' → 0 ≤ v → v < (xs.length : Int) → ∃ x, atI xs v = some x ∧ post (.val x) (some d') := fun d' v hP h1 h2 => by
      obtain ⟨x, a, _, b⟩ := atI_in h1 h2
      exact ⟨x, a, k d' x hP b⟩
    have bl : ib (xs.length : Int) ≤ 1000 := ib_le (n := 30) (ib_nat (by omega) (by omega))
    rcases hc with rfl | rfl <;> exact ⟨rfl, t, d, xs.length, rfl, hP, ht, by omega, bl, fun d' v p h1 h2 => go d' v p h1 h2⟩⟩
abbrev s_l_same : Stmt := topS 16
abbrev N_l_same : List Str := ["actual", "due", "k", "key"]
theorem sc_l_same : FnScope N_l_same ["actual", "due"] (defScope s_l_same) := ⟨rfl, rfl, rfl, by decide +kernel, rfl, by decide +kernel, by decide +kernel⟩
theorem C_l_same0 (Df : DefAt K mg "_law_same" s_l_same ["actual", "due"]) : Cal P w K mg base true "_law_same" 1 (fun _ _ => False) :=
  cal_ok Df sc_l_same (fun cs post h => h.elim) fun f cdv A outer s H E hr => ⟨_, sss_dead, fun cs post h => h⟩
theorem C_l_sameS (bi : Bi mg) (n : Nat) (FD : DF) (hFD : ∀ m, n = m + 1 → FD = F_same m) (C_l_same : Cal P w K mg base true "_law_same" (n + 1) FD) (Df : DefAt K mg "_law_same" s_l_same ["actual", "due"]) : Cal P w K mg base true "_law_same" (n + 2) (F_same n) :=
  cal_ok Df sc_l_same (fun cs post h => by obtain ⟨c1, c2, a, b, rfl, _⟩ := h; rfl) fun f cdv A outer s H E hr => ⟨_, (sss_cons (ss_if (st_cmp ob_is (sv 1) se_non)
    (sss_one (ss_ret (se_cmp ob_is (sv 0) se_non)))
    sss_nil)
    (sss_cons (ss_if (st_cmp ob_is (sv 1) se_bl)
    (sss_one (ss_ret (se_cmp ob_is (sv 0) se_bl)))
    sss_nil)
    (sss_cons (ss_if (st_cmp ob_is (sv 1) se_bl)
    (sss_one (ss_ret (se_cmp ob_is (sv 0) se_bl)))
    sss_nil)
    (sss_cons (ss_if (st_val (se_isa (by decide) (by rfl) bi.isinstance (by rfl) bi.int boot_int (sv 1)))
    (sss_one (ss_ret (se_and (se_isa (by decide) (by rfl) bi.isinstance (by rfl) bi.int boot_int (sv 0)) (se_and (se_not (se_isa (by decide) (by rfl) bi.isinstance (by rfl) bi.bool boot_bool (sv 0))) (se_one (se_cmp (ob_eq hr.units) (sv 0) (sv 1)))))))
    sss_nil)
    (sss_cons (ss_if (st_val (se_isa (by decide) (by rfl) bi.isinstance (by rfl) bi.str boot_str (sv 1)))
    (sss_one (ss_ret (se_and (se_isa (by decide) (by rfl) bi.isinstance (by rfl) bi.str boot_str (sv 0)) (se_one (se_cmp (ob_eq hr.units) (sv 0) (sv 1))))))
    sss_nil)
    (sss_cons (ss_if (st_val (se_isa (by decide) (by rfl) bi.isinstance (by rfl) bi.dict boot_dict (sv 1)))
    sss_dead
    sss_nil)
    (sss_cons (ss_if (sw_or (st_cmp (ob_ne hr.units) (se_isa (by decide) (by rfl) bi.isinstance (by rfl) bi.tuple boot_tuple (sv 0)) (se_isa (by decide) (by rfl) bi.isinstance (by rfl) bi.tuple boot_tuple (sv 1))) (sw_or1 (st_cmp (ob_ne hr.units) (se_isa (by decide) (by rfl) bi.isinstance (by rfl) bi.list boot_list (sv 0)) (se_isa (by decide) (by rfl) bi.isinstance (by rfl) bi.list boot_list (sv 1))))).st
    (sss_one (ss_ret se_bl))
    sss_nil)
    (sss_cons (ss_if (st_cmp (ob_ne hr.units) (se_callB cb_len (by rfl) bi.len PySem.boot_len (sr_cons (sv 0) sr_nil)) (se_callB cb_len (by rfl) bi.len PySem.boot_len (sr_cons (sv 1) sr_nil)))
    (sss_one (ss_ret se_bl))
    sss_nil)
    (sss_cons (ss_for PassesOwn.never rfl (si_range1 (by rfl) bi.range (sr_cons (se_callB cb_len (by rfl) bi.len PySem.boot_len (sr_cons (sv 1) sr_nil)) sr_nil)) (sg_v 2 sc_l_same.nd)
    (sss_one (ss_if (st_not (st_val (se_callC none C_l_same (hr.mono (by first | decide | omega)) (by rfl) (sr_cons (se_ix (sv 0) (sv 2)) (sr_cons (se_ix (sv 1) (sv 2)) sr_nil)))))
    (sss_one (ss_ret se_bl))
    sss_nil)))
    (sss_one (ss_ret se_bl))))))))))), fun cs post h => by
    obtain ⟨c1, c2, a, b, rfl, h1, h2, ok1, ok2, k⟩ := h
    cases b with
    | dk => cases n <;> exact nomatch ok2
    | dt => cases n <;> exact nomatch ok2
    | scr => cases n <;> exact nomatch ok2
    | xt => cases n <;> exact nomatch ok2
    | ks => cases n <;> exact nomatch ok2
    | str y =>
      cases a <;> first
        | (cases n <;> exact absurd ok1 Bool.false_ne_true)
        | (rcases h1 with rfl | rfl <;> rcases h2 with rfl | rfl <;> first | exact k | exact ⟨rfl, k⟩ | exact ⟨rfl, rfl, k⟩ | exact ⟨rfl, rfl, rfl, k⟩ | exact ⟨rfl, rfl, rfl, rfl, k⟩ | exact ⟨rfl, rfl, rfl, rfl, rfl, k⟩ | exact ⟨rfl, rfl, rfl, rfl, rfl, rfl, k⟩ | exact ⟨rfl, rfl, rfl, rfl, rfl, rfl, rfl, k⟩ | exact ⟨rfl, rfl, rfl, rfl, rfl, rfl, rfl, rfl, k⟩ | exact ⟨rfl, rfl, rfl, rfl, rfl, rfl, rfl, rfl, rfl, k⟩ | exact ⟨rfl, rfl, rfl, rfl, rfl, rfl, rfl, rfl, rfl, rfl, k⟩ | exact ⟨rfl, rfl, rfl, rfl, rfl, rfl, rfl, rfl, rfl, rfl, rfl, k⟩ | exact ⟨rfl, rfl, rfl, rfl, rfl, rfl, rfl, rfl, rfl, rfl, rfl, rfl, k⟩)
    | int y =>
      cases a <;> first
        | (cases n <;> exact absurd ok1 Bool.false_ne_true)
        | (rcases h1 with rfl | rfl <;> rcases h2 with rfl | rfl <;> first | exact k | exact ⟨rfl, k⟩ | exact ⟨rfl, rfl, k⟩ | exact ⟨rfl, rfl, rfl, k⟩ | exact ⟨rfl, rfl, rfl, rfl, k⟩ | exact ⟨rfl, rfl, rfl, rfl, rfl, k⟩ | exact ⟨rfl, rfl, rfl, rfl, rfl, rfl, k⟩ | exact ⟨rfl, rfl, rfl, rfl, rfl, rfl, rfl, k⟩ | exact ⟨rfl, rfl, rfl, rfl, rfl, rfl, rfl, rfl, k⟩ | exact ⟨rfl, rfl, rfl, rfl, rfl, rfl, rfl, rfl, rfl, k⟩ | exact ⟨rfl, rfl, rfl, rfl, rfl, rfl, rfl, rfl, rfl, rfl, k⟩ | exact ⟨rfl, rfl, rfl, rfl, rfl, rfl, rfl, rfl, rfl, rfl, rfl, k⟩ | exact ⟨rfl, rfl, rfl, rfl, rfl, rfl, rfl, rfl, rfl, rfl, rfl, rfl, k⟩)
    | non =>
      cases a <;> first
        | (cases n <;> exact absurd ok1 Bool.false_ne_true)
        | (rcases h1 with rfl | rfl <;> rcases h2 with rfl | rfl <;> first | exact k | exact ⟨rfl, k⟩ | exact ⟨rfl, rfl, k⟩ | exact ⟨rfl, rfl, rfl, k⟩ | exact ⟨rfl, rfl, rfl, rfl, k⟩ | exact ⟨rfl, rfl, rfl, rfl, rfl, k⟩ | exact ⟨rfl, rfl, rfl, rfl, rfl, rfl, k⟩ | exact ⟨rfl, rfl, rfl, rfl, rfl, rfl, rfl, k⟩ | exact ⟨rfl, rfl, rfl, rfl, rfl, rfl, rfl, rfl, k⟩ | exact ⟨rfl, rfl, rfl, rfl, rfl, rfl, rfl, rfl, rfl, k⟩ | exact ⟨rfl, rfl, rfl, rfl, rfl, rfl, rfl, rfl, rfl, rfl, k⟩ | exact ⟨rfl, rfl, rfl, rfl, rfl, rfl, rfl, rfl, rfl, rfl, rfl, k⟩ | exact ⟨rfl, rfl, rfl, rfl, rfl, rfl, rfl, rfl, rfl, rfl, rfl, rfl, k⟩)
    | bl y =>
      cases y <;> cases a <;> first
        | (cases n <;> exact absurd ok1 Bool.false_ne_true)
        | (rename_i x; cases x <;> rcases h1 with rfl | rfl <;> rcases h2 with rfl | rfl <;> first | exact k | exact ⟨rfl, k⟩ | exact ⟨rfl, rfl, k⟩ | exact ⟨rfl, rfl, rfl, k⟩ | exact ⟨rfl, rfl, rfl, rfl, k⟩ | exact ⟨rfl, rfl, rfl, rfl, rfl, k⟩ | exact ⟨rfl, rfl, rfl, rfl, rfl, rfl, k⟩ | exact ⟨rfl, rfl, rfl, rfl, rfl, rfl, rfl, k⟩ | exact ⟨rfl, rfl, rfl, rfl, rfl, rfl, rfl, rfl, k⟩ | exact ⟨rfl, rfl, rfl, rfl, rfl, rfl, rfl, rfl, rfl, k⟩ | exact ⟨rfl, rfl, rfl, rfl, rfl, rfl, rfl, rfl, rfl, rfl, k⟩ | exact ⟨rfl, rfl, rfl, rfl, rfl, rfl, rfl, rfl, rfl, rfl, rfl, k⟩ | exact ⟨rfl, rfl, rfl, rfl, rfl, rfl, rfl, rfl, rfl, rfl, rfl, rfl, k⟩)
        | (rcases h1 with rfl | rfl <;> rcases h2 with rfl | rfl <;> first | exact k | exact ⟨rfl, k⟩ | exact ⟨rfl, rfl, k⟩ | exact ⟨rfl, rfl, rfl, k⟩ | exact ⟨rfl, rfl, rfl, rfl, k⟩ | exact ⟨rfl, rfl, rfl, rfl, rfl, k⟩ | exact ⟨rfl, rfl, rfl, rfl, rfl, rfl, k⟩ | exact ⟨rfl, rfl, rfl, rfl, rfl, rfl, rfl, k⟩ | exact ⟨rfl, rfl, rfl, rfl, rfl, rfl, rfl, rfl, k⟩ | exact ⟨rfl, rfl, rfl, rfl, rfl, rfl, rfl, rfl, rfl, k⟩ | exact ⟨rfl, rfl, rfl, rfl, rfl, rfl, rfl, rfl, rfl, rfl, k⟩ | exact ⟨rfl, rfl, rfl, rfl, rfl, rfl, rfl, rfl, rfl, rfl, rfl, k⟩ | exact ⟨rfl, rfl, rfl, rfl, rfl, rfl, rfl, rfl, rfl, rfl, rfl, rfl, k⟩)
    | lst ys =>
      cases n with
      | zero => exact absurd ok2 Bool.false_ne_true
      | succ m =>
        cases hFD m rfl
        cases a with
        | lst xs =>
          have ok1' : (decide (xs.length ≤ sizeLine) && xs.all (oks m)) = true := ok1
          have ok2' : (decide (ys.length ≤ sizeLine) && ys.all (oks m)) = true := ok2
          rw [Bool.and_eq_true, decide_eq_true_eq] at ok1' ok2'
          have e24 : sizeLine = 16777216 := by decide
          have hy := ok2'.1
          have kF : xs.length ≠ ys.length → post (.val (.bl false)) none := fun z => by
            rw [show sameD (.lst xs) (.lst ys) = sames xs ys from by rw [sameD], sames_len xs ys z] at k
            exact k
          have kB : ∀ b, xs.length = ys.length → (((List.range ys.length).map fun k => sameD (xs.getD k .non) (ys.getD k .non)).all id) = b → post (.val (.bl b)) none := fun b z e => by
            rw [show sameD (.lst xs) (.lst ys) = sames xs ys from by rw [sameD], sames_all xs ys z, e] at k
            exact k
          have step : xs.length = ys.length → ∀ i, i < ys.length → ∃ (u v : D), atI xs (i : Int) = some u ∧ atI ys (i : Int) = some v ∧ oks m u = true ∧ oks m v = true ∧ xs.getD i .non = u ∧ ys.getD i .non = v := fun z i hi => by
            obtain ⟨u, a1, a2, a3⟩ := atI_in (xs := xs) (i := (i : Int)) (by omega) (by omega)
            obtain ⟨v, b1, b2, b3⟩ := atI_in (xs := ys) (i := (i : Int)) (by omega) (by omega)
            rw [Int.toNat_natCast] at a2 b2
            exact ⟨u, v, a1, b1, List.all_eq_true.mp ok1'.2 u a3, List.all_eq_true.mp ok2'.2 v b3, by rw [List.getD_eq_getElem?_getD, a2]; rfl, by rw [List.getD_eq_getElem?_getD, b2]; rfl⟩
          rcases h1 with rfl | rfl <;> rcases h2 with rfl | rfl
          all_goals
            refine ⟨rfl, rfl, rfl, rfl, ifF rfl ⟨rfl, ifF rfl ⟨rfl, iteB (fun z => ?_) fun z => ?_⟩⟩⟩
            · refine kF fun e => ?_
              have z' : (!((xs.length : Int) == (ys.length : Int))) = true := z
              rw [e] at z'
              simp at z'
            have z' : (!((xs.length : Int) == (ys.length : Int))) = false := z
            have e : xs.length = ys.length := by
              rw [Bool.not_eq_false'] at z'
              exact Int.ofNat.inj (eq_of_beq z')
            refine ⟨⟨by omega, by omega⟩, for_inv (fun j E' => ∃ (c1 c2 c3 : Cell), E' = [c1, c2, c3, .un] ∧ AC c1 (.lst xs) ∧ AC c2 (.lst ys) ∧ fv c3 ∧ ∀ i, i < j → sameD (xs.getD i .non) (ys.getD i .non) = true) ⟨_, _, .un, rfl, by first | exact .inl rfl | exact .inr rfl, by first | exact .inl rfl | exact .inr rfl, trivial, fun i hi => absurd hi (by omega)⟩ (fun j x E' next hx hE hn => ?_) fun E' hE => ?_⟩
            · obtain ⟨c1, c2, c3, rfl, h1, h2, s3, hall⟩ := hE
              obtain ⟨hj, rfl⟩ := range_at hx
              rw [Int.zero_add, Int.toNat_natCast] at *
              obtain ⟨u, v, a1, a2, o1, o2, g1, g2⟩ := step e j (by omega)
              rcases h1 with rfl | rfl <;> rcases h2 with rfl | rfl
              all_goals
                refine ⟨s3.set, u, a1, v, a2, .val u, .val v, u, v, rfl, .inl rfl, .inl rfl, o1, o2, iteB (fun h => ?_) fun h => ?_⟩
                · have h' : (!sameD u v) = true := h
                  refine kB false e ?_
                  rw [List.all_eq_false]
                  exact ⟨sameD (xs.getD j .non) (ys.getD j .non), List.mem_map.mpr ⟨j, List.mem_range.mpr (by omega), rfl⟩, by rw [g1, g2]; simpa using h'⟩
                · have h' : (!sameD u v) = false := h
                  refine hn _ ⟨_, _, .val (.int (j : Int)), rfl, by first | exact .inl rfl | exact .inr rfl, by first | exact .inl rfl | exact .inr rfl, trivial, fun i hi => ?_⟩
                  by_cases hij : i < j
                  · exact hall i hij
                  · have e3 : i = j := by omega
                    rw [e3, g1, g2]; simpa using h'
            · obtain ⟨c1, c2, c3, rfl, h1, h2, s3, hall⟩ := hE
              rw [rangeD_len, Int.toNat_natCast] at hall
              have kk := kB true e (by
                rw [List.all_eq_true]
                intro b hb
                obtain ⟨i, hi, rfl⟩ := List.mem_map.mp hb
                exact hall i (List.mem_range.mp hi))
              rcases h1 with rfl | rfl <;> rcases h2 with rfl | rfl
              all_goals
                show post _ (borOf [c3, .un])
                rw [s3.bor]
                exact kk
        | dk => exact absurd ok1 Bool.false_ne_true
        | dt => exact absurd ok1 Bool.false_ne_true
        | scr => exact absurd ok1 Bool.false_ne_true
        | xt => exact absurd ok1 Bool.false_ne_true
        | ks => exact absurd ok1 Bool.false_ne_true
        | _ => rcases h1 with rfl | rfl <;> rcases h2 with rfl | rfl <;> first | exact k | exact ⟨rfl, k⟩ | exact ⟨rfl, rfl, k⟩ | exact ⟨rfl, rfl, rfl, k⟩ | exact ⟨rfl, rfl, rfl, rfl, k⟩ | exact ⟨rfl, rfl, rfl, rfl, rfl, k⟩ | exact ⟨rfl, rfl, rfl, rfl, rfl, rfl, k⟩ | exact ⟨rfl, rfl, rfl, rfl, rfl, rfl, rfl, k⟩ | exact ⟨rfl, rfl, rfl, rfl, rfl, rfl, rfl, rfl, k⟩ | exact ⟨rfl, rfl, rfl, rfl, rfl, rfl, rfl, rfl, rfl, k⟩ | exact ⟨rfl, rfl, rfl, rfl, rfl, rfl, rfl, rfl, rfl, rfl, k⟩ | exact ⟨rfl, rfl, rfl, rfl, rfl, rfl, rfl, rfl, rfl, rfl, rfl, k⟩ | exact ⟨rfl, rfl, rfl, rfl, rfl, rfl, rfl, rfl, rfl, rfl, rfl, rfl, k⟩
    | tup ys =>
      cases n with
      | zero => exact absurd ok2 Bool.false_ne_true
      | succ m =>
        cases hFD m rfl
        cases a with
        | tup xs =>
          have ok1' : (decide (xs.length ≤ sizeLine) && xs.all (oks m)) = true := ok1
          have ok2' : (decide (ys.length ≤ sizeLine) && ys.all (oks m)) = true := ok2
          rw [Bool.and_eq_true, decide_eq_true_eq] at ok1' ok2'
          have e24 : sizeLine = 16777216 := by decide
          have hy := ok2'.1
          have kF : xs.length ≠ ys.length → post (.val (.bl false)) none := fun z => by
            rw [show sameD (.tup xs) (.tup ys) = sames xs ys from by rw [sameD], sames_len xs ys z] at k
            exact k
          have kB : ∀ b, xs.length = ys.length → (((List.range ys.length).map fun k => sameD (xs.getD k .non) (ys.getD k .non)).all id) = b → post (.val (.bl b)) none := fun b z e => by
            rw [show sameD (.tup xs) (.tup ys) = sames xs ys from by rw [sameD], sames_all xs ys z, e] at k
            exact k
          have step : xs.length = ys.length → ∀ i, i < ys.length → ∃ (u v : D), atI xs (i : Int) = some u ∧ atI ys (i : Int) = some v ∧ oks m u = true ∧ oks m v = true ∧ xs.getD i .non = u ∧ ys.getD i .non = v := fun z i hi => by
            obtain ⟨u, a1, a2, a3⟩ := atI_in (xs := xs) (i := (i : Int)) (by omega) (by omega)
            obtain ⟨v, b1, b2, b3⟩ := atI_in (xs := ys) (i := (i : Int)) (by omega) (by omega)
            rw [Int.toNat_natCast] at a2 b2
            exact ⟨u, v, a1, b1, List.all_eq_true.mp ok1'.2 u a3, List.all_eq_true.mp ok2'.2 v b3, by rw [List.getD_eq_getElem?_getD, a2]; rfl, by rw [List.getD_eq_getElem?_getD, b2]; rfl⟩
          rcases h1 with rfl | rfl <;> rcases h2 with rfl | rfl
          all_goals
            refine ⟨rfl, rfl, rfl, rfl, ifF rfl ⟨rfl, ifF rfl ⟨rfl, iteB (fun z => ?_) fun z => ?_⟩⟩⟩
            · refine kF fun e => ?_
              have z' : (!((xs.length : Int) == (ys.length : Int))) = true := z
              rw [e] at z'
              simp at z'
            have z' : (!((xs.length : Int) == (ys.length : Int))) = false := z
            have e : xs.length = ys.length := by
              rw [Bool.not_eq_false'] at z'
              exact Int.ofNat.inj (eq_of_beq z')
            refine ⟨⟨by omega, by omega⟩, for_inv (fun j E' => ∃ (c1 c2 c3 : Cell), E' = [c1, c2, c3, .un] ∧ AC c1 (.tup xs) ∧ AC c2 (.tup ys) ∧ fv c3 ∧ ∀ i, i < j → sameD (xs.getD i .non) (ys.getD i .non) = true) ⟨_, _, .un, rfl, by first | exact .inl rfl | exact .inr rfl, by first | exact .inl rfl | exact .inr rfl, trivial, fun i hi => absurd hi (by omega)⟩ (fun j x E' next hx hE hn => ?_) fun E' hE => ?_⟩
            · obtain ⟨c1, c2, c3, rfl, h1, h2, s3, hall⟩ := hE
              obtain ⟨hj, rfl⟩ := range_at hx
              rw [Int.zero_add, Int.toNat_natCast] at *
              obtain ⟨u, v, a1, a2, o1, o2, g1, g2⟩ := step e j (by omega)
              rcases h1 with rfl | rfl <;> rcases h2 with rfl | rfl
              all_goals
                refine ⟨s3.set, u, a1, v, a2, .val u, .val v, u, v, rfl, .inl rfl, .inl rfl, o1, o2, iteB (fun h => ?_) fun h => ?_⟩
                · have h' : (!sameD u v) = true := h
                  refine kB false e ?_
                  rw [List.all_eq_false]
                  exact ⟨sameD (xs.getD j .non) (ys.getD j .non), List.mem_map.mpr ⟨j, List.mem_range.mpr (by omega), rfl⟩, by rw [g1, g2]; simpa using h'⟩
                · have h' : (!sameD u v) = false := h
                  refine hn _ ⟨_, _, .val (.int (j : Int)), rfl, by first | exact .inl rfl | exact .inr rfl, by first | exact .inl rfl | exact .inr rfl, trivial, fun i hi => ?_⟩
                  by_cases hij : i < j
                  · exact hall i hij
                  · have e3 : i = j := by omega
                    rw [e3, g1, g2]; simpa using h'
            · obtain ⟨c1, c2, c3, rfl, h1, h2, s3, hall⟩ := hE
              rw [rangeD_len, Int.toNat_natCast] at hall
              have kk := kB true e (by
                rw [List.all_eq_true]
                intro b hb
                obtain ⟨i, hi, rfl⟩ := List.mem_map.mp hb
                exact hall i (List.mem_range.mp hi))
              rcases h1 with rfl | rfl <;> rcases h2 with rfl | rfl
              all_goals
                show post _ (borOf [c3, .un])
                rw [s3.bor]
                exact kk
        | dk => exact absurd ok1 Bool.false_ne_true
        | dt => exact absurd ok1 Bool.false_ne_true
        | scr => exact absurd ok1 Bool.false_ne_true
        | xt => exact absurd ok1 Bool.false_ne_true
        | ks => exact absurd ok1 Bool.false_ne_true
        | _ => rcases h1 with rfl | rfl <;> rcases h2 with rfl | rfl <;> first | exact k | exact ⟨rfl, k⟩ | exact ⟨rfl, rfl, k⟩ | exact ⟨rfl, rfl, rfl, k⟩ | exact ⟨rfl, rfl, rfl, rfl, k⟩ | exact ⟨rfl, rfl, rfl, rfl, rfl, k⟩ | exact ⟨rfl, rfl, rfl, rfl, rfl, rfl, k⟩ | exact ⟨rfl, rfl, rfl, rfl, rfl, rfl, rfl, k⟩ | exact ⟨rfl, rfl, rfl, rfl, rfl, rfl, rfl, rfl, k⟩ | exact ⟨rfl, rfl, rfl, rfl, rfl, rfl, rfl, rfl, rfl, k⟩ | exact ⟨rfl, rfl, rfl, rfl, rfl, rfl, rfl, rfl, rfl, rfl, k⟩ | exact ⟨rfl, rfl, rfl, rfl, rfl, rfl, rfl, rfl, rfl, rfl, rfl, k⟩ | exact ⟨rfl, rfl, rfl, rfl, rfl, rfl, rfl, rfl, rfl, rfl, rfl, rfl, k⟩⟩
end
end BL
set_option Elab.async false
set_option linter.all false
set_option maxRecDepth 100000
set_option maxHeartbeats 4000000
namespace BL
open PySem PySem.Spec PyProof.Rows L2 BD
local macro_rules | `(tactic| walk_at "nb") => `(tactic| repeat' (first | exact trivial | assumption | (apply fv.nb; assumption) | refine And.intro ?_ ?_))
def F_unl : DF := fun cs post => ∃ (n : Nat) (l : List Nat) (c : Cell), cs = [c] ∧ (c = .val (rX l) ∨ c = .ro (iL l)) ∧ Row n l ∧ n ≤ 7 ∧ post (.fr (.lst ((prs n l).map kP))) none
def F_rw : DF := fun cs post => ∃ (n : Nat) (t : List (Nat × Nat)) (c : Cell), cs = [.val (.int n), c] ∧ AC c (.lst (t.map pT)) ∧ t.Sublist (evr n) ∧ n ≤ 7 ∧ post (.val (if prs n (rwB t n) = t then rX (rwB t n) else .non)) none
def F_below : DF := fun cs post => ∃ (n : Nat) (l m : List Nat), cs = [.val (rX l), .val (rX m)] ∧ Row n l ∧ Row n m ∧ n ≤ 7 ∧ post (.val (.bl ((prs n l).all fun p => decide (p ∈ prs n m)))) none
def F_judge : DF := fun cs post => ∃ (n : Nat) (l m : List Nat) (p : Nat × Nat), cs = [.val (rX l), .val (rX m), .val (pT p)] ∧ Row n l ∧ Row n m ∧ n ≤ 7 ∧ post (.val (.bl (decide (p ∈ prs n l) && !decide (p ∈ prs n m)))) none
def fKp (b : Nat) : D → Option D
  | .int o => if o.toNat < b then some (.ks [.int o, iD b]) else none
  | _ => none
theorem fKp_map (b : Nat) : ∀ l : List Nat, (l.map iD).filterMap (fKp b) = ((l.filter fun y => decide (y < b)).map fun y => (y, b)).map kP
  | [] => rfl
  | x :: l => by
    have e : fKp b (iD x) = if x < b then some (kP (x, b)) else none := rfl
    rw [List.map_cons, List.filterMap_cons, e, List.filter_cons]
    by_cases c : x < b
    · rw [if_pos c, if_pos (decide_eq_true c), List.map_cons, List.map_cons, ← fKp_map b l]
    · rw [if_neg c, if_neg (by simpa using c), ← fKp_map b l]
def kqp (p : Nat × Nat) : List Key := [.inl ((p.1 : Nat) : Int), .inl ((p.2 : Nat) : Int)]
theorem kqp_inj {p q : Nat × Nat} (h : kqp p = kqp q) : p = q := by
  unfold kqp at h
  simp only [List.cons.injEq, Sum.inl.injEq, and_true] at h
  exact Prod.ext (by omega) (by omega)
def fIn (ps : List (Nat × Nat)) : D → D
  | .ks [.int a, .int b] => .bl (decide ((a.toNat, b.toNat) ∈ ps))
  | _ => .non
theorem dc_keys {ct : CT} {tt : DT} {dk dv : DV} {vs : List Nat} {done : D → List Cell → Prop} (z : D) (E0 : List Cell)
    (hs : ∀ (p : Nat × Nat) (k : D → D → List Cell → Prop) (k' : List Cell → Prop), k (kP p) z E0 → putCT ct (kP p) E0 fun E1 => tt E1 fun b E2 => if b = true then dk E2 fun y E3 => dv E3 fun w E4 => k y w (wipeE E4 vs) else k' (wipeE E2 vs)) :
    ∀ (ps : List (Nat × Nat)) (kds : List (List Key × D)), kds.length + ps.length ≤ 1000 → (∀ kds', (∀ q, (lookD kds' q).isSome = true ↔ (lookD kds q).isSome = true ∨ ∃ p ∈ ps, kqp p = q) → done (.dt kds') E0) → dcL ct tt dk dv vs done (ps.map kP) (.dt kds) E0
  | [], kds, _, h => h kds fun q => by simp
  | p :: ps, kds, hl, h => by
    rw [List.length_cons] at hl
    have e24 : sizeLine = 16777216 := by decide
    have hp := put_len_le kds (kqp p) z
    refine hs p (fun y w E => dPut (.dt kds) y w fun acc => dcL ct tt dk dv vs done (ps.map kP) acc E) (fun E => dcL ct tt dk dv vs done (ps.map kP) (.dt kds) E) ⟨kqp p, rfl, by omega, ?_⟩
    refine dc_keys z E0 hs ps _ (by omega) fun kds' hk => h kds' fun q => ?_
    rw [hk, look_put]
    by_cases c : q = kqp p
    · subst c
      simp
    · rw [if_neg c]
      constructor
      · rintro (h | ⟨r, hr, e⟩)
        · exact .inl h
        · exact .inr ⟨r, List.mem_cons_of_mem _ hr, e⟩
      · rintro (h | ⟨r, hr, e⟩)
        · exact .inl h
        · rcases List.mem_cons.mp hr with rfl | hr
          · exact absurd e.symm c
          · exact .inr ⟨r, hr, e⟩
def fEq2 (b : Nat) : D → Option D
  | .tup [_, .int o] => if o.toNat = b then some (.int 1) else none
  | _ => none
theorem fEq2_map (b : Nat) : ∀ l : List (Nat × Nat), (l.map pT).filterMap (fEq2 b) = (l.filter fun p => p.2 == b).map fun _ => D.int 1
  | [] => rfl
  | x :: l => by
    have e : fEq2 b (pT x) = if x.2 = b then some (.int 1) else none := rfl
    rw [List.map_cons, List.filterMap_cons, e, List.filter_cons]
    by_cases c : x.2 = b
    · rw [if_pos c, if_pos (by simpa using c), List.map_cons, ← fEq2_map b l]
    · rw [if_neg c, if_neg (by simpa using c), ← fEq2_map b l]
section
variable {P : Program} {w : World} {K : PySem.W.Frag} {mg : Str → Option Value} {base : Heap}
abbrev s_unlike_of : Stmt := topS 1
abbrev N_unlike_of : List Str := ["row", "found", "at", "bell", "other"]
theorem sc_unlike_of : FnScope N_unlike_of ["row"] (defScope s_unlike_of) := ⟨rfl, rfl, rfl, by decide +kernel, rfl, by decide +kernel, by decide +kernel⟩
theorem C_unlike_of (bi : Bi mg) (Df : DefAt K mg "unlike_of" s_unlike_of ["row"]) : Cal P w K mg base true "unlike_of" 1 F_unl :=
  cal_ok Df sc_unlike_of (fun cs post h => by obtain ⟨n, l, c, rfl, _⟩ := h; rfl) fun f cdv A outer s H E hr => ⟨_, (sss_cons (ss_asg (se_lst sa_nil) (sg_o 1 sc_unlike_of.nd))
    (sss_cons (ss_for PassesOwn.never rfl (si_enumA (by rfl) bi.enumerate (se_wk (sv 0))) (sg_tup rfl (sgs_cons (sg_v 2 sc_unlike_of.nd) (sgs_cons (sg_v 3 sc_unlike_of.nd) sgs_nil)))
    (sss_one (ss_expr (se_mut 1 PySem.F.slot_list_extend PySem.F.type_list_extend mt_extend md_extend (sa_cons (se_lc (own := [("other", 4)]) (ct := (.one 4)) rfl sc_unlike_of.nd (si_any (se_slice (se_wk (sv 0)) (so_some (se_bin ob_add (sv 2) se_int)) so_none)) (blkOk_by (own := [("other", 4)]) (N := N_unlike_of) (sc := defScope s_unlike_of) (by decide +kernel)) (by decide)
      (fun _ _ _ _ _ => pg_name (i := 4) sc_unlike_of.nd rfl (Or.inl rfl)) (fun _ _ _ _ _ => (sts_one (st_cmp ob_lt (sv 4) (sv 3)))) (fun _ _ _ _ _ => (se_tupK (sa_cons (sv 4) (sa_cons (sv 3) sa_nil))))) sa_nil)))))
    (sss_one (ss_ret (se_callB (cb_sortK (u65 hr)) (by rfl) bi.sorted boot_sorted (sr_cons (sv 1) sr_nil)))))), fun cs post h => by
    obtain ⟨n, l, c, rfl, hc, hR, hn, k⟩ := h
    have e24 : sizeLine = 16777216 := by decide
    have hl := hR.len
    have hul : ∀ j, ((l.zipIdx.take j).flatMap (uz l)).length ≤ 21 := fun j => by
      have h1 : (l.zipIdx.flatMap (uz l)).length ≤ 21 := by
        rw [uz_all l l 0 rfl, (unl_prs hR).length_eq]
        exact prs_len hn
      rw [← List.take_append_drop j l.zipIdx, List.flatMap_append, List.length_append] at h1
      omega
    have bodyOk : ∀ (j : Nat) (b : Nat), l.zipIdx[j]? = some (b, j) → (l.zipIdx.take (j + 1)).flatMap (uz l) = (l.zipIdx.take j).flatMap (uz l) ++ uz l (b, j) := fun j b h => by
      rw [List.take_add_one, h, List.flatMap_append]
      congr 1
      show List.flatMap (uz l) [(b, j)] = _
      rw [List.flatMap_cons, List.flatMap_nil, List.append_nil]
    obtain ⟨c0, hc0⟩ : ∃ c0, c0 = c := ⟨_, rfl⟩
    have nb0 : nbC c0 := by rcases hc with rfl | rfl <;> (subst hc0; trivial)
    rcases hc with rfl | rfl
    all_goals
      refine ⟨Nat.zero_le _, trivial, _, rfl, ?_⟩
      try rw [wks_iD]
      refine for_inv (fun j E' => ∃ c2 c3 : Cell, E' = [c0, .own (.lst (((l.zipIdx.take j).flatMap (uz l)).map kP)), c2, c3, .un] ∧ canSet c2 ∧ canSet c3) ⟨.un, .un, by rw [hc0]; rfl, trivial, trivial⟩ (fun j y E' next hy hE hN => ?_) fun E' hE => ?_
      · obtain ⟨c2, c3, rfl, s2, s3⟩ := hE
        rw [enum_iD, List.getElem?_map] at hy
        obtain ⟨⟨b, j'⟩, hq, rfl⟩ := Option.map_eq_some_iff.mp hy
        have hq0 := hq
        rw [List.getElem?_zipIdx] at hq
        obtain ⟨b', hb', e1⟩ := Option.map_eq_some_iff.mp hq
        obtain ⟨rfl, rfl⟩ : b' = b ∧ 0 + j = j' := by injection e1 with e1 e2; exact ⟨e1, e2⟩
        rw [Nat.zero_add] at hq0 ⊢
        have hj : j < l.length := (List.getElem?_eq_some_iff.mp hb').1
        have hcut : cutL (l.map iD) (some ((j : Int) + 1)) none = (l.drop (j + 1)).map iD := by
          rw [show (j : Int) + 1 = ((j + 1 : Nat) : Int) by omega, cutL_from (by rw [List.length_map]; omega), List.map_drop]
        subst hc0
        refine ⟨rfl, s2, s3, _, rfl, ?_⟩
        try rw [wks_iD]
        rw [hcut]
        refine lc_fm (fKp b') _ _ [] (fun x hx k' hk => ?_) (by rw [List.length_map, List.length_drop]; show 0 + _ ≤ _; omega) ?_
        · obtain ⟨o, ho, rfl⟩ := List.mem_map.mp hx
          have hk2 : k' (if o < b' then some (.ks [iD o, iD b']) else none) _ := hk
          refine iteD (fun c => ?_) fun c => ?_
          · rw [if_pos (by omega)] at hk2
            exact ⟨by show 2 ≤ _; omega, hk2⟩
          · rw [if_neg (by omega)] at hk2
            exact hk2
        · rw [List.nil_append, fKp_map]
          have e2 := bodyOk j b' hq0
          have hle := hul (j + 1)
          rw [e2, List.length_append] at hle
          refine ⟨by rw [List.length_map, List.length_map]; show _ + (uz l (b', j)).length ≤ _; omega, hN _ ⟨.val (iD j), .val (iD b'), ?_, trivial, trivial⟩⟩
          rw [e2, List.map_append]
          rfl
      · obtain ⟨c2, c3, rfl, s2, s3⟩ := hE
        have hln : (enumD (l.map iD)).length = l.zipIdx.length := by rw [enum_iD, List.length_map]
        rw [hln, List.take_length, uz_all l l 0 rfl]
        refine ⟨sok_pT (by rw [(unl_prs hR).length_eq]; have := prs_len (l := l) hn; omega), ?_⟩
        rw [sort_unl hR]
        exact fin_ok (post := post) (by walk_at "nb") k⟩
abbrev s_row_with : Stmt := topS 2
abbrev N_row_with : List Str := ["stage", "told", "row", "bell", "behind", "pair"]
theorem sc_row_with : FnScope N_row_with ["stage", "told"] (defScope s_row_with) := ⟨rfl, rfl, rfl, by decide +kernel, rfl, by decide +kernel, by decide +kernel⟩
theorem C_row_with (bi : Bi mg) (C_unlike_of : Cal P w K mg base true "unlike_of" 1 F_unl) (Df : DefAt K mg "row_with" s_row_with ["stage", "told"]) : Cal P w K mg base true "row_with" 2 F_rw :=
  cal_ok Df sc_row_with (fun cs post h => by obtain ⟨n, t, c, rfl, _⟩ := h; rfl) fun f cdv A outer s H E hr => ⟨_, (sss_cons (ss_asg (se_lst sa_nil) (sg_o 2 sc_row_with.nd))
    (sss_cons (ss_for PassesOwn.never rfl (si_range2 (by rfl) bi.range (sr_cons se_int (sr_cons (se_bin ob_add (sv 0) se_int) sr_nil))) (sg_v 3 sc_row_with.nd)
    (sss_cons (ss_asg (se_callB cb_len (by rfl) bi.len PySem.boot_len (sr_cons (se_lc (own := [("pair", 5)]) (ct := (.one 5)) rfl sc_row_with.nd (si_any (sv 1)) (blkOk_by (own := [("pair", 5)]) (N := N_row_with) (sc := defScope s_row_with) (by decide +kernel)) (by decide)
      (fun _ _ _ _ _ => pg_name (i := 5) sc_row_with.nd rfl (Or.inl rfl)) (fun _ _ _ _ _ => (sts_one (st_cmp (ob_eq hr.units) (se_ix (sv 5) se_int) (sv 3)))) (fun _ _ _ _ _ => se_int)) sr_nil)) (sg_v 4 sc_row_with.nd))
    (sss_cons (ss_if (st_cmp ob_gt (sv 4) (se_callB cb_len (by rfl) bi.len PySem.boot_len (sr_cons (sv 2) sr_nil)))
    (sss_one (ss_ret se_non))
    sss_nil)
    (sss_one (ss_expr (se_mut 2 PySem.F.slot_list_insert PySem.F.type_list_insert mt_insert md_insert (sa_cons (se_bin ob_sub (se_callB cb_len (by rfl) bi.len PySem.boot_len (sr_cons (sv 2) sr_nil)) (sv 4)) (sa_cons (sv 3) sa_nil))))))))
    (sss_one (ss_ret (se_if (st_cmp (ob_eq hr.units) (se_wk (se_callC none C_unlike_of (hr.mono (by first | decide | omega)) (by rfl) (sr_cons (sv 2) sr_nil))) (se_callTy cb_list (by rfl) bi.list boot_list (sr_cons (sv 1) sr_nil))) (se_callTy cb_tupX (by rfl) bi.tuple boot_tuple (sr_cons (sv 2) sr_nil)) se_non))))), fun cs post h => by
    obtain ⟨n, t, c, rfl, hc, hs, hn, k⟩ := h
    have e24 : sizeLine = 16777216 := by decide
    have htl : t.length ≤ 21 := Nat.le_trans hs.length_le (evr_len hn)
    have hb : ∀ j, bhd t (j + 1) ≤ j := fun j => by
      have h1 := rwB_row t j
      rw [bhd_mem hs h1]
      refine Nat.le_trans (List.length_filter_le _ _) ?_
      rw [h1.len]
      exact Nat.le_refl _
    have it : rangeD 1 ((n : Int) + 1 - 1).toNat = (List.range' 1 n).map iD := range_rnd n
    obtain ⟨c0, hc0⟩ : ∃ c0, c0 = c := ⟨_, rfl⟩
    have nb0 : nbC c0 := by rcases hc with rfl | rfl <;> (subst hc0; trivial)
    rcases hc with rfl | rfl
    all_goals
      refine ⟨Nat.zero_le _, trivial, ⟨by decide, by decide, by omega, by omega⟩, ?_⟩
      rw [it]
      refine for_inv (fun j E' => ∃ c3 c4 : Cell, E' = [.val (.int n), c0, .own (iL (rwB t j)), c3, c4, .un] ∧ canSet c3 ∧ canSet c4) ⟨.un, .un, by rw [hc0]; rfl, trivial, trivial⟩ (fun j y E' next hy hE hN => ?_) fun E' hE => ?_
      · obtain ⟨c3, c4, rfl, s3, s4⟩ := hE
        rw [List.getElem?_map] at hy
        obtain ⟨b, hb2, rfl⟩ := Option.map_eq_some_iff.mp hy
        have hj : j < n := by
          have := (List.getElem?_eq_some_iff.mp hb2).1
          rw [List.length_range'] at this
          exact this
        rw [List.getElem?_range' hj] at hb2
        obtain rfl : j + 1 = b := by have := Option.some.inj hb2; omega
        subst hc0
        have hrl := (rwB_row t j).len
        refine ⟨s3, _, rfl, lc_fm (fEq2 (j + 1)) _ _ [] (fun x hx k' hk => ?_) (by rw [List.length_map]; show 0 + _ ≤ _; omega) ?_⟩
        · obtain ⟨p, hp, rfl⟩ := List.mem_map.mp hx
          have hk2 : k' (if p.2 = j + 1 then some (.int 1) else none) _ := hk
          refine ⟨_, rfl, rfl, iteB (fun c => ?_) fun c => ?_⟩
          · have c2 : ((p.2 : Int) == ((j + 1 : Nat) : Int)) = true := c
            rw [if_pos (by have := eq_of_beq c2; omega)] at hk2
            exact hk2
          · have c2 : ((p.2 : Int) == ((j + 1 : Nat) : Int)) = false := c
            rw [if_neg (fun z => by rw [z] at c2; simp at c2)] at hk2
            exact hk2
        · rw [List.nil_append, fEq2_map]
          have hbl : ((t.filter fun p => p.2 == j + 1).map fun _ => D.int 1).length = bhd t (j + 1) := List.length_map _
          have hbj := hb j
          have hrm : ((rwB t j).map iD).length = j := by rw [List.length_map]; exact hrl
          refine ⟨s4, ?_⟩
          dsimp only [sNext, put, upB, BD.nth]
          rw [hbl]
          refine iteD (fun c => ?_) fun c => ?_
          · rw [hrm] at c; omega
          · have hi : (((rwB t j).map iD).length : Int) - (bhd t (j + 1) : Nat) = ((j - bhd t (j + 1) : Nat) : Int) := by rw [hrm]; omega
            have hcell : ((rwB t j).map iD).take ((((rwB t j).map iD).length : Int) - (bhd t (j + 1) : Nat)).toNat ++ [iD (j + 1)] ++ ((rwB t j).map iD).drop ((((rwB t j).map iD).length : Int) - (bhd t (j + 1) : Nat)).toNat = (rwB t (j + 1)).map iD := by
              rw [hi, Int.toNat_natCast]
              show _ = (ins (rwB t j) (j - bhd t (j + 1)) (j + 1)).map iD
              unfold ins
              rw [List.map_append, List.map_cons, List.map_take, List.map_drop, List.append_assoc]
              rfl
            have hfin := hN _ ⟨.val (iD (j + 1)), .val (.int (bhd t (j + 1) : Nat)), rfl, trivial, trivial⟩
            refine ⟨⟨by omega, by omega, by omega⟩, ?_⟩
            dsimp only [sNext, put, upB, BD.nth]
            rw [hcell]
            exact hfin
      · obtain ⟨c3, c4, rfl, s3, s4⟩ := hE
        rw [List.length_map, List.length_range']
        subst hc0
        have hR := rwB_row t n
        have w1 : cok (.lst (wks ((prs n (rwB t n)).map kP))) (.lst (t.map pT)) = true := by rw [wks_kP]; exact cok_pTs _ _
        have w2 : D.eq (.lst (wks ((prs n (rwB t n)).map kP))) (.lst (t.map pT)) = (prs n (rwB t n) == t) := by rw [wks_kP]; exact eqs_pT _ _
        refine ⟨by decide, n, rwB t n, _, rfl, .inr rfl, hR, hn, w1, iteB (fun c => ?_) fun c => ?_⟩
        · have c2 : D.eq (.lst (wks ((prs n (rwB t n)).map kP))) (.lst (t.map pT)) = true := c
          rw [w2] at c2
          rw [if_pos (eq_of_beq c2)] at k
          exact fin_ok (post := post) (by walk_at "nb") k
        · have c2 : D.eq (.lst (wks ((prs n (rwB t n)).map kP))) (.lst (t.map pT)) = false := c
          rw [w2] at c2
          rw [if_neg (fun z => by rw [z] at c2; simp at c2)] at k
          exact fin_ok (post := post) (by walk_at "nb") k⟩
abbrev s_is_below : Stmt := topS 3
abbrev N_is_below : List Str := ["one", "other", "own", "pair"]
theorem sc_is_below : FnScope N_is_below ["one", "other"] (defScope s_is_below) := ⟨rfl, rfl, rfl, by decide +kernel, rfl, by decide +kernel, by decide +kernel⟩
theorem C_is_below (bi : Bi mg) (C_unlike_of : Cal P w K mg base true "unlike_of" 1 F_unl) (Df : DefAt K mg "is_below" s_is_below ["one", "other"]) : Cal P w K mg base true "is_below" 2 F_below :=
  cal_ok Df sc_is_below (fun cs post h => by obtain ⟨n, l, m, rfl, _⟩ := h; rfl) fun f cdv A outer s H E hr => ⟨_, (sss_cons (ss_asg (se_dc (own := [("pair", 3)]) (ct := (.one 3)) (o0 := .dT []) (d0 := .dt []) (.inr ⟨rfl, rfl⟩) (hu_of hr) rfl sc_is_below.nd (si_any (se_callC none C_unlike_of (hr.mono (by first | decide | omega)) (by rfl) (sr_cons (sv 1) sr_nil))) (blkOk_by (own := [("pair", 3)]) (N := N_is_below) (sc := defScope s_is_below) (by decide +kernel)) (by decide)
      (fun _ _ _ _ _ => pg_name (i := 3) sc_is_below.nd rfl (Or.inl rfl)) (fun _ _ _ _ _ => sts_nil) (fun _ _ _ _ _ => (sv 3)) (fun _ _ _ _ _ => se_bl)) (sg_v 2 sc_is_below.nd))
    (sss_one (ss_ret (se_callB (cb_all rfl) (by rfl) bi.all boot_all (sr_cons (se_lc (own := [("pair", 3)]) (ct := (.one 3)) rfl sc_is_below.nd (si_any (se_callC none C_unlike_of (hr.mono (by first | decide | omega)) (by rfl) (sr_cons (sv 0) sr_nil))) (blkOk_by (own := [("pair", 3)]) (N := N_is_below) (sc := defScope s_is_below) (by decide +kernel)) (by decide)
      (fun _ _ _ _ _ => pg_name (i := 3) sc_is_below.nd rfl (Or.inl rfl)) (fun _ _ _ _ _ => sts_nil) (fun _ _ _ _ _ => (se_din (hu_of hr) (sv 3) (sv 2)))) sr_nil))))), fun cs post h => by
    obtain ⟨n, l, m, rfl, hL, hM, hn, k⟩ := h
    have e24 : sizeLine = 16777216 := by decide
    have hlm := prs_len (l := m) hn
    have hll := prs_len (l := l) hn
    refine ⟨n, m, _, rfl, .inl rfl, hM, hn, _, rfl, dc_keys (.bl true) _ (fun p k1 k2 hk => ?_) (prs n m) [] (by show 0 + _ ≤ _; omega) fun kds hkd => ?_⟩
    · exact hk
    refine ⟨trivial, n, l, _, rfl, .inl rfl, hL, hn, _, rfl, lc_map (fIn (prs n m)) _ _ (fun x hx k' hk => ?_) (by rw [List.length_map]; omega) ?_⟩
    · obtain ⟨p, hp, rfl⟩ := List.mem_map.mp hx
      have e : (lookD kds (kqp p)).isSome = decide (p ∈ prs n m) := by
        rw [Bool.eq_iff_iff, decide_eq_true_eq, hkd]
        constructor
        · rintro (h | ⟨q, hq, e⟩)
          · exact absurd h Bool.false_ne_true
          · rw [← kqp_inj e]; exact hq
        · exact fun h => .inr ⟨p, h, rfl⟩
      have hk2 : k' (some (.bl (decide (p ∈ prs n m)))) _ := hk
      rw [← e] at hk2
      exact ⟨kqp p, rfl, hk2⟩
    · refine ⟨(prs n l).map fun p => decide (p ∈ prs n m), ?_, ?_⟩
      · rw [List.map_map, List.map_map]; rfl
      · rw [List.all_map]
        exact k⟩
abbrev s_judge_not_below : Stmt := topS 6
abbrev N_judge_not_below : List Str := ["one", "other", "pair"]
theorem sc_judge_not_below : FnScope N_judge_not_below ["one", "other", "pair"] (defScope s_judge_not_below) := ⟨rfl, rfl, rfl, by decide +kernel, rfl, by decide +kernel, by decide +kernel⟩
theorem C_judge_not_below (bi : Bi mg) (C_unlike_of : Cal P w K mg base true "unlike_of" 1 F_unl) (Df : DefAt K mg "judge_not_below" s_judge_not_below ["one", "other", "pair"]) : Cal P w K mg base true "judge_not_below" 2 F_judge :=
  cal_ok Df sc_judge_not_below (fun cs post h => by obtain ⟨n, l, m, p, rfl, _⟩ := h; rfl) fun f cdv A outer s H E hr => ⟨_, (sss_one (ss_ret (se_and (se_cmp (ob_in (u65 hr)) (sv 2) (se_wk (se_callC none C_unlike_of (hr.mono (by first | decide | omega)) (by rfl) (sr_cons (sv 0) sr_nil)))) (se_one (se_cmp (ob_notIn (u65 hr)) (sv 2) (se_wk (se_callC none C_unlike_of (hr.mono (by first | decide | omega)) (by rfl) (sr_cons (sv 1) sr_nil)))))))), fun cs post h => by
    obtain ⟨n, l, m, p, rfl, hL, hM, hn, k⟩ := h
    have e24 : sizeLine = 16777216 := by decide
    have a1 : ∀ l : List Nat, okd 60 (pT p) = true ∧ (wks ((prs n l).map kP)).all (okd 59) = true := fun l => by rw [wks_kP]; exact ⟨okd_pT 59 p, okd_pTs 58 _⟩
    have a2 : ∀ l : List Nat, ((wks ((prs n l).map kP)).any fun z => D.eq z (pT p)) = decide (p ∈ prs n l) := fun l => by rw [wks_kP]; exact any_pT _ _
    refine ⟨n, l, _, rfl, .inl rfl, hL, hn, a1 l, iteB (fun c => ?_) fun c => ?_⟩
    · have c2 : ((wks ((prs n l).map kP)).any fun z => D.eq z (pT p)) = true := c
      rw [a2] at c2
      refine ⟨n, m, _, rfl, .inl rfl, hM, hn, a1 m, ?_⟩
      rw [c2, Bool.true_and, ← a2 m] at k
      exact k
    · have c2 : ((wks ((prs n l).map kP)).any fun z => D.eq z (pT p)) = false := c
      rw [a2] at c2
      rw [c2, Bool.false_and] at k
      exact k⟩
end
end BL
set_option Elab.async false
set_option linter.all false
set_option maxRecDepth 100000
set_option maxHeartbeats 4000000
namespace BL
open PySem PySem.Spec PyProof.Rows L2 BD
local macro_rules | `(tactic| walk_at "nb") => `(tactic| repeat' (first | exact trivial | assumption | (apply fv.nb; assumption) | refine And.intro ?_ ?_))
theorem ixN_nat {n j : Nat} (h : j < n) : ixN n (j : Int) = some j := by
  unfold ixN
  rw [if_pos (by omega), if_pos (by omega), Int.toNat_natCast]
theorem map_erase (f : Nat → D) : ∀ (l : List Nat) (i : Nat), (l.map f).eraseIdx i = (l.eraseIdx i).map f
  | [], _ => rfl
  | x :: l, 0 => rfl
  | x :: l, i + 1 => by
    rw [List.map_cons, List.eraseIdx_cons_succ, List.eraseIdx_cons_succ, List.map_cons, map_erase f l i]
theorem erase_perm {b : Nat} : ∀ {l : List Nat} {i : Nat}, l[i]? = some b → (b :: l.eraseIdx i).Perm l
  | [], _, h => nomatch h
  | x :: l, 0, h => by
    cases h
    exact List.Perm.refl _
  | x :: l, i + 1, h => by
    rw [List.eraseIdx_cons_succ]
    exact (List.Perm.swap x b _).trans (List.Perm.cons x (erase_perm (l := l) (i := i) h))
theorem idx_nat (k : Nat) : ∀ l : List Nat, (l.map fun i : Nat => (i : Int)).idxOf (k : Int) = ix l k
  | [] => rfl
  | x :: l => by
    have ih := idx_nat k l
    unfold ix at ih ⊢
    rw [List.map_cons, List.idxOf_cons, List.idxOf_cons, ih]
    have : ((x : Int) == (k : Int)) = (x == k) := by
      rw [Bool.eq_iff_iff, beq_iff_eq, beq_iff_eq]; omega
    rw [this]
theorem map_nat (l : List Nat) : l.map iD = (l.map fun i : Nat => (i : Int)).map D.int := by
  rw [List.map_map]; rfl
def jr (l : List Nat) (j : Nat) : List (List Nat) := ((List.range j).filter fun i => decide (l.getD i 0 < l.getD (i + 1) 0)).map fun i => sw l (i + 1)
theorem jr_succ (l : List Nat) (j : Nat) : jr l (j + 1) = jr l j ++ (if l.getD j 0 < l.getD (j + 1) 0 then [sw l (j + 1)] else []) := by
  unfold jr
  rw [List.range_succ, List.filter_append, List.map_append]
  congr 1
  by_cases c : l.getD j 0 < l.getD (j + 1) 0
  · rw [if_pos c, List.filter_cons_of_pos (by simpa using c)]; rfl
  · rw [if_neg c, List.filter_cons_of_neg (by simpa using c)]; rfl
theorem jr_len (l : List Nat) (j : Nat) : (jr l j).length ≤ j := by
  unfold jr
  rw [List.length_map]
  exact Nat.le_trans (List.length_filter_le _ _) (by rw [List.length_range]; exact Nat.le_refl _)
theorem sok_rTs {ls : List (List Nat)} (h : ls.length ≤ 1000) (hn : ∀ l ∈ ls, l ≠ []) : SOk (ls.map rT) := by
  have e24 : sizeLine = 16777216 := by decide
  have := sok_tupI (rs := ls.map fun l => l.map fun i : Nat => (i : Int)) (by rw [List.length_map]; omega) fun r hr => by
    obtain ⟨l, hl, rfl⟩ := List.mem_map.mp hr
    intro z
    exact hn l hl (List.map_eq_nil_iff.mp z)
  rw [List.map_map] at this
  have e : ls.map rT = ls.map (tupI ∘ fun l => l.map fun i : Nat => (i : Int)) := List.map_congr_left fun l _ => by
    show D.tup _ = D.tup (intsD _)
    rw [map_nat]
    rfl
  rw [e]
  exact this
theorem two_cut {l : List Nat} {i : Nat} (h : i + 1 < l.length) : cutL (l.map iD) none (some (i : Int)) ++ [iD (l.getD (i + 1) 0), iD (l.getD i 0)] ++ cutL (l.map iD) (some ((i : Int) + 2)) none = (sw l (i + 1)).map iD := by
  rw [show (i : Int) + 2 = ((i + 2 : Nat) : Int) by omega, cutL_upto (by rw [List.length_map]; omega), cutL_from (by rw [List.length_map]; omega), ← sw_cut (by omega : 1 ≤ i + 1) h]
  rw [List.map_append, List.map_append, List.map_take, List.map_drop]
  rfl
def F_just : DF := fun cs post => ∃ (n : Nat) (l : List Nat), cs = [.val (rT l)] ∧ Row n l ∧ 1 ≤ n ∧ n ≤ 7 ∧ post (.fr (.lst (sortD ((jr l (n - 1)).map rT)))) none
def F_mix : DF := fun cs post => ∃ (m : Nat) (d : D) (l : List Nat) (c : Cell), cs = [.bor d, c] ∧ AC c (iL l) ∧ Pool m d ∧ m ≤ 900000 ∧ l.length ≤ 12 ∧ ∀ d' t, Pool (m + l.length) d' → t.Perm l → post (.fr (iL t)) (some d')
def F_row : DF := fun cs post => ∃ (m : Nat) (d : D) (n : Nat), cs = [.bor d, .val (.int n)] ∧ Pool m d ∧ m ≤ 900000 ∧ n ≤ 12 ∧ ∀ d' l, Pool (m + n) d' → Row n l → post (.val (rX l)) (some d')
def F_prs : DF := fun cs post => ∃ (n : Nat) (l : List Nat), cs = [.val (rX l)] ∧ Row n l ∧ n ≤ 7 ∧ post (.fr (.lst ((prs n l).map pT))) none
section
variable {P : Program} {w : World} {K : PySem.W.Frag} {mg : Str → Option Value} {base : Heap}
abbrev s_just_above : Stmt := topS 4
abbrev N_just_above : List Str := ["row", "found", "place"]
theorem sc_just_above : FnScope N_just_above ["row"] (defScope s_just_above) := ⟨rfl, rfl, rfl, by decide +kernel, rfl, by decide +kernel, by decide +kernel⟩
theorem C_just_above (bi : Bi mg) (Df : DefAt K mg "just_above" s_just_above ["row"]) : Cal P w K mg base true "just_above" 1 F_just :=
  cal_ok Df sc_just_above (fun cs post h => by obtain ⟨n, l, rfl, _⟩ := h; rfl) fun f cdv A outer s H E hr => ⟨_, (sss_cons (ss_asg (se_lst sa_nil) (sg_o 1 sc_just_above.nd))
    (sss_cons (ss_for PassesOwn.never rfl (si_range1 (by rfl) bi.range (sr_cons (se_bin ob_sub (se_callB cb_len (by rfl) bi.len PySem.boot_len (sr_cons (sv 0) sr_nil)) se_int) sr_nil)) (sg_v 2 sc_just_above.nd)
    (sss_one (ss_if (st_cmp ob_lt (se_ix (sv 0) (sv 2)) (se_ix (sv 0) (se_bin ob_add (sv 2) se_int)))
    (sss_one (ss_expr (se_append 1 (sa_cons (se_bin ob_add (se_bin ob_add (se_slice (sv 0) so_none (so_some (sv 2))) (se_tup (sa_cons (se_ix (sv 0) (se_bin ob_add (sv 2) se_int)) (sa_cons (se_ix (sv 0) (sv 2)) sa_nil)))) (se_slice (sv 0) (so_some (se_bin ob_add (sv 2) se_int)) so_none)) sa_nil))))
    sss_nil)))
    (sss_one (ss_ret (se_callB (cb_sorted' (u65 hr)) (by rfl) bi.sorted boot_sorted (sr_cons (sv 1) sr_nil)))))), fun cs post h => by
    obtain ⟨n, l, rfl, hR, hn1, hn, k⟩ := h
    have e24 : sizeLine = 16777216 := by decide
    have hl := hR.len
    have eu : (l.map iD).length = n := by rw [List.length_map]; exact hl
    refine ⟨Nat.zero_le _, trivial, ⟨by omega, by omega⟩, for_inv (fun j E' => ∃ c2 : Cell, E' = [.val (rT l), .own (.lst ((jr l j).map rT)), c2] ∧ canSet c2) ⟨.un, rfl, trivial⟩ (fun j y E' next hy hE hN => ?_) fun E' hE => ?_⟩
    · obtain ⟨c2, rfl, s2⟩ := hE
      obtain ⟨hj, rfl⟩ := range_at hy
      rw [show (0 : Int) + (j : Nat) = (j : Nat) from Int.zero_add _]
      have hj2 : j + 1 < l.length := by omega
      have a1 : atI (l.map iD) (j : Nat) = some (iD (l.getD j 0)) := at_iD (by omega)
      have a2 : atI (l.map iD) ((j : Int) + 1) = some (iD (l.getD (j + 1) 0)) := by rw [show (j : Int) + 1 = ((j + 1 : Nat) : Int) by omega]; exact at_iD hj2
      have hle := jr_len l j
      refine ⟨s2, _, a1, _, a2, iteD (fun c => ?_) fun c => ?_⟩
      · have z1 : (cutL (l.map iD) none (some (j : Int))).length ≤ 12 := by rw [cutL_upto (by omega), List.length_take]; omega
        have z2 : (cutL (l.map iD) (some ((j : Int) + 2)) none).length ≤ 12 := by rw [show (j : Int) + 2 = ((j + 2 : Nat) : Int) by omega, cutL_from (by omega), List.length_drop]; omega
        have ee := jr_succ l j
        rw [if_pos (by omega)] at ee
        refine ⟨_, a2, _, a1, by show 2 ≤ _; omega, by show _ + 2 ≤ _; omega, by rw [List.length_append]; show _ + 2 + _ ≤ _; omega, by rw [List.length_map]; omega, hN _ ⟨.val (iD j), ?_, trivial⟩⟩
        rw [ee, List.map_append]
        show _ = [_, Cell.own (.lst ((jr l j).map rT ++ [.tup ((sw l (j + 1)).map iD)])), _]
        rw [← two_cut hj2]
        rfl
      · have ee := jr_succ l j
        rw [if_neg (by omega), List.append_nil] at ee
        exact hN _ ⟨.val (iD j), by rw [ee]; rfl, trivial⟩
    · obtain ⟨c2, rfl, s2⟩ := hE
      rw [rangeD_len, show ((((l.map iD).length : Nat) : Int) - 1).toNat = n - 1 by omega]
      have hle := jr_len l (n - 1)
      refine ⟨sok_rTs (by omega) fun m hm => ?_, fin_ok (post := post) (by walk_at "nb") k⟩
      unfold jr at hm
      obtain ⟨i, hi, rfl⟩ := List.mem_map.mp hm
      have hi2 := List.mem_range.mp (List.mem_filter.mp hi).1
      intro z
      have := sw_len (l := l) (p := i + 1) (by omega) (by omega)
      rw [z, List.length_nil] at this
      omega⟩
abbrev s_l_mixed_up : Stmt := topS 13
abbrev N_l_mixed_up : List Str := ["pool", "items", "left", "found", "k"]
theorem sc_l_mixed_up : FnScope N_l_mixed_up ["pool", "items"] (defScope s_l_mixed_up) := ⟨rfl, rfl, rfl, by decide +kernel, rfl, by decide +kernel, by decide +kernel⟩
theorem C_l_mixed_up (bi : Bi mg) (C_l_draw : Cal P w K mg base true "_law_draw" 3 F_draw) (Df : DefAt K mg "_law_mixed_up" s_l_mixed_up ["pool", "items"]) : Cal P w K mg base true "_law_mixed_up" 4 F_mix :=
  cal_ok Df sc_l_mixed_up (fun cs post h => by obtain ⟨m, d, l, c, rfl, _⟩ := h; rfl) fun f cdv A outer s H E hr => ⟨_, (sss_cons (ss_asg (se_callTy cb_list (by rfl) bi.list boot_list (sr_cons (sv 1) sr_nil)) (sg_o 2 sc_l_mixed_up.nd))
    (sss_cons (ss_asg (se_lst sa_nil) (sg_o 3 sc_l_mixed_up.nd))
    (sss_cons (ss_for PassesOwn.never rfl (si_range1 (by rfl) bi.range (sr_cons (se_callB cb_len (by rfl) bi.len PySem.boot_len (sr_cons (sv 1) sr_nil)) sr_nil)) (sg_v 4 sc_l_mixed_up.nd)
    (sss_one (ss_expr (se_append 3 (sa_cons (se_mut 2 PySem.F.slot_list_pop PySem.F.type_list_pop mt_popAt md_popAt (sa_cons (se_callC (some (0, 0)) C_l_draw (hr.mono (by first | decide | omega)) (by rfl) (sr_cons (sv 0) (sr_cons (se_callB cb_len (by rfl) bi.len PySem.boot_len (sr_cons (sv 2) sr_nil)) sr_nil))) sa_nil)) sa_nil)))))
    (sss_one (ss_ret (sv 3)))))), fun cs post h => by
    obtain ⟨m, d, l, c, rfl, hc, hP, hm, hn, k⟩ := h
    have e24 : sizeLine = 16777216 := by decide
    have lt : lineT = 1000000 := rfl
    have eu : (l.map iD).length = l.length := List.length_map _
    obtain ⟨c0, hc0⟩ : ∃ c0, c0 = c := ⟨_, rfl⟩
    have nb0 : nbC c0 := by rcases hc with rfl | rfl <;> (subst hc0; trivial)
    rcases hc with rfl | rfl
    all_goals
      refine ⟨trivial, Nat.zero_le _, trivial, ⟨by omega, by omega⟩, for_inv (fun j E' => ∃ (d : D) (t left : List Nat) (c4 : Cell), E' = [.bor d, c0, .own (iL left), .own (iL t), c4] ∧ Pool (m + j) d ∧ (t ++ left).Perm l ∧ t.length = j ∧ canSet c4) ⟨d, [], l, .un, by rw [hc0]; rfl, hP, List.Perm.refl _, rfl, trivial⟩ (fun j y E' next hy hE hN => ?_) fun E' hE => ?_⟩
      · obtain ⟨d1, t, left, c4, rfl, P1, hp, ht, s4⟩ := hE
        obtain ⟨hj, rfl⟩ := range_at hy
        rw [Int.toNat_natCast, eu] at hj
        have hl := hp.length_eq
        rw [List.length_append] at hl
        refine ⟨s4, rfl, m + j, d1, ((left.map iD).length : Nat), rfl, P1, by omega, by rw [List.length_map]; omega, ib_cx (by omega) (by rw [List.length_map]; omega), fun d2 v P2 v0 v1 => ?_⟩
        rw [List.length_map] at v1
        obtain ⟨i, rfl⟩ : ∃ i : Nat, v = i := ⟨v.toNat, by omega⟩
        have hi : i < left.length := by omega
        obtain ⟨b, hb⟩ : ∃ b, left[i]? = some b := ⟨left[i], List.getElem?_eq_getElem hi⟩
        refine ⟨⟨by omega, by omega⟩, i, iD b, (ixN_seq (ixN_nat (by rw [List.length_map]; exact hi))).1, by rw [List.getElem?_map, hb]; rfl, by rw [List.length_map]; omega, hN _ ⟨d2, t ++ [b], left.eraseIdx i, .val (.int (0 + (j : Nat))), ?_, P2, ?_, ?_, trivial⟩⟩
        · rw [map_erase]
          unfold iL
          rw [List.map_append]
          rfl
        · refine List.Perm.trans ?_ hp
          rw [List.append_assoc]
          exact List.Perm.append_left t (erase_perm hb)
        · rw [List.length_append, ht]; rfl
      · obtain ⟨d1, t, left, c4, rfl, P1, hp, ht, s4⟩ := hE
        rw [rangeD_len, Int.toNat_natCast, eu] at P1 ht
        have hl := hp.length_eq
        rw [List.length_append] at hl
        have : left = [] := List.length_eq_zero_iff.mp (by omega)
        subst this
        rw [List.append_nil] at hp
        subst hc0
        exact k d1 t P1 hp⟩
abbrev s_l_row : Stmt := topS 14
abbrev N_l_row : List Str := ["pool", "stage"]
theorem sc_l_row : FnScope N_l_row ["pool", "stage"] (defScope s_l_row) := ⟨rfl, rfl, rfl, by decide +kernel, rfl, by decide +kernel, by decide +kernel⟩
theorem C_l_row (bi : Bi mg) (C_l_mixed_up : Cal P w K mg base true "_law_mixed_up" 4 F_mix) (Df : DefAt K mg "_law_row" s_l_row ["pool", "stage"]) : Cal P w K mg base true "_law_row" 5 F_row :=
  cal_ok Df sc_l_row (fun cs post h => by obtain ⟨m, d, n, rfl, _⟩ := h; rfl) fun f cdv A outer s H E hr => ⟨_, (sss_one (ss_ret (se_callTy cb_tupX (by rfl) bi.tuple boot_tuple (sr_cons (se_callC (some (0, 0)) C_l_mixed_up (hr.mono (by first | decide | omega)) (by rfl) (sr_cons (sv 0) (sr_cons (se_listRg rfl (by rfl) bi.list (rg_2 (by rfl) bi.range se_int (se_bin ob_add (sv 1) se_int))) sr_nil))) sr_nil)))), fun cs post h => by
    obtain ⟨m, d, n, rfl, hP, hm, hn, k⟩ := h
    have e24 : sizeLine = 16777216 := by decide
    refine ⟨⟨by decide, by decide, by omega, by omega⟩, ?_⟩
    rw [range_rnd]
    have hl : (rnd n).length = n := (Row.rnd n).len
    refine ⟨rfl, m, d, rnd n, _, rfl, .inr rfl, hP, hm, by omega, fun d2 t P2 hp => ?_⟩
    rw [hl] at P2
    exact k d2 t P2 hp⟩
end
end BL
set_option Elab.async false
set_option linter.all false
set_option maxRecDepth 100000
set_option maxHeartbeats 4000000
namespace BL
open PySem PySem.Spec PyProof.Rows L2 BD
local macro_rules | `(tactic| walk_at "nb") => `(tactic| repeat' (first | exact trivial | assumption | (apply fv.nb; assumption) | refine And.intro ?_ ?_))
def qB (l : List Nat) (p : Nat × Nat) : Bool := decide (ix l p.2 < ix l p.1)
def inr (n : Nat) (l : List Nat) (a j : Nat) : List (Nat × Nat) := (((List.range' (a + 1) (n - a)).take j).map fun b => (a, b)).filter (qB l)
def pre (n : Nat) (l : List Nat) (j : Nat) : List (Nat × Nat) := ((List.range' 1 n).take j).flatMap fun a => inr n l a (n - a)
theorem inr_all (n : Nat) (l : List Nat) (a j : Nat) (h : n - a ≤ j) : inr n l a j = ((List.range' (a + 1) (n - a)).map fun b => (a, b)).filter (qB l) := by
  unfold inr
  rw [List.take_of_length_le (by rw [List.length_range']; exact h)]
theorem pre_all (n : Nat) (l : List Nat) : pre n l n = prs n l := by
  unfold pre prs evr
  rw [List.take_of_length_le (by rw [List.length_range']; exact Nat.le_refl _), List.filter_flatMap]
  congr 1
  funext a
  rw [inr_all n l a _ (Nat.le_refl _)]
  rfl
theorem pre_succ {n : Nat} (l : List Nat) {j : Nat} (h : j < n) : pre n l (j + 1) = pre n l j ++ inr n l (j + 1) (n - (j + 1)) := by
  unfold pre
  rw [List.take_add_one, List.getElem?_range' h, List.flatMap_append]
  congr 1
  show List.flatMap _ [1 + 1 * j] = _
  rw [List.flatMap_cons, List.flatMap_nil, List.append_nil, show 1 + 1 * j = j + 1 by omega]
theorem inr_succ {n : Nat} (l : List Nat) {a j : Nat} (h : j < n - a) : inr n l a (j + 1) = inr n l a j ++ (if ix l (a + 1 + j) < ix l a then [(a, a + 1 + j)] else []) := by
  unfold inr
  rw [List.take_add_one, List.getElem?_range' h, List.map_append, List.filter_append]
  congr 1
  rw [show a + 1 + 1 * j = a + 1 + j by omega]
  show ([(a, a + 1 + j)] : List (Nat × Nat)).filter (qB l) = _
  by_cases c : ix l (a + 1 + j) < ix l a
  · rw [if_pos c, List.filter_cons_of_pos (by unfold qB; simpa using c)]; rfl
  · rw [if_neg c, List.filter_cons_of_neg (by unfold qB; simpa using c)]; rfl
theorem inr_len (n : Nat) (l : List Nat) (a j : Nat) : (inr n l a j).length ≤ n := by
  unfold inr
  refine Nat.le_trans (List.length_filter_le _ _) ?_
  rw [List.length_map, List.length_take, List.length_range']
  omega
theorem pre_len (n : Nat) (l : List Nat) : ∀ j, j ≤ n → (pre n l j).length ≤ j * n
  | 0, _ => Nat.zero_le _
  | j + 1, h => by
    rw [pre_succ l (by omega), List.length_append, Nat.succ_mul]
    have := pre_len n l j (by omega)
    have := inr_len n l (j + 1) (n - (j + 1))
    omega
def F_und : DF := fun cs post => ∃ (n : Nat) (l m : List Nat), cs = [.val (rX l), .val (rX m)] ∧ Row n l ∧ Row n m ∧ n ≤ 7 ∧ post (.val (.bl ((prs n l).all fun p => decide (p ∈ prs n m)))) none
def F_brk : DF := fun cs post => ∃ (n : Nat) (t : List (Nat × Nat)) (c : Cell), cs = [.val (.int n), c] ∧ AC c (.lst (t.map pT)) ∧ n ≤ 7 ∧ ∀ b : Bool, (b = true ↔ ¬ Clo n t) → post (.val (.bl b)) none
def fOut (ps : List (Nat × Nat)) : D → Option D
  | .tup [.int a, .int b] => if (a.toNat, b.toNat) ∈ ps then none else some (.tup [.int a, .int b])
  | _ => none
theorem fOut_map (ps : List (Nat × Nat)) : ∀ l : List (Nat × Nat), (l.map pT).filterMap (fOut ps) = (l.filter fun p => !decide (p ∈ ps)).map pT
  | [] => rfl
  | x :: l => by
    have e : fOut ps (pT x) = if x ∈ ps then none else some (pT x) := rfl
    rw [List.map_cons, List.filterMap_cons, e, List.filter_cons]
    by_cases c : x ∈ ps
    · rw [if_pos c, if_neg (by simpa using c), ← fOut_map ps l]
    · rw [if_neg c, if_pos (by simpa using c), List.map_cons, ← fOut_map ps l]
section
variable {P : Program} {w : World} {K : PySem.W.Frag} {mg : Str → Option Value} {base : Heap}
abbrev s_l_pairs_of : Stmt := topS 15
abbrev N_l_pairs_of : List Str := ["row", "found", "a", "b"]
theorem sc_l_pairs_of : FnScope N_l_pairs_of ["row"] (defScope s_l_pairs_of) := ⟨rfl, rfl, rfl, by decide +kernel, rfl, by decide +kernel, by decide +kernel⟩
theorem C_l_pairs_of (bi : Bi mg) (Df : DefAt K mg "_law_pairs_of" s_l_pairs_of ["row"]) : Cal P w K mg base true "_law_pairs_of" 1 F_prs :=
  cal_ok Df sc_l_pairs_of (fun cs post h => by obtain ⟨n, l, rfl, _⟩ := h; rfl) fun f cdv A outer s H E hr => ⟨_, (sss_cons (ss_asg (se_lst sa_nil) (sg_o 1 sc_l_pairs_of.nd))
    (sss_cons (ss_for PassesOwn.never rfl (si_range2 (by rfl) bi.range (sr_cons se_int (sr_cons (se_bin ob_add (se_callB cb_len (by rfl) bi.len PySem.boot_len (sr_cons (se_wk (sv 0)) sr_nil)) se_int) sr_nil))) (sg_v 2 sc_l_pairs_of.nd)
    (sss_one (ss_for PassesOwn.never rfl (si_range2 (by rfl) bi.range (sr_cons (se_bin ob_add (sv 2) se_int) (sr_cons (se_bin ob_add (se_callB cb_len (by rfl) bi.len PySem.boot_len (sr_cons (se_wk (sv 0)) sr_nil)) se_int) sr_nil))) (sg_v 3 sc_l_pairs_of.nd)
    (sss_one (ss_if (st_cmp ob_lt (se_idxX (sv 0) (sr_cons (sv 3) sr_nil)) (se_idxX (sv 0) (sr_cons (sv 2) sr_nil)))
    (sss_one (ss_expr (se_append 1 (sa_cons (se_tup (sa_cons (sv 2) (sa_cons (sv 3) sa_nil))) sa_nil))))
    sss_nil)))))
    (sss_one (ss_ret (sv 1))))), fun cs post h => by
    obtain ⟨n, l, rfl, hR, hn, k⟩ := h
    have e24 : sizeLine = 16777216 := by decide
    have eu : (wks (l.map iD)).length = n := by rw [wks_iD, List.length_map]; exact hR.len
    refine ⟨Nat.zero_le _, trivial, ⟨by decide, by decide, by omega, by omega⟩, ?_⟩
    rw [eu, range_rnd]
    refine for_inv (fun j E' => ∃ c2 c3 : Cell, E' = [.val (rX l), .own (.lst ((pre n l j).map pT)), c2, c3] ∧ canSet c2 ∧ canSet c3) ⟨.un, .un, rfl, trivial, trivial⟩ (fun j y E' next hy hE hN => ?_) fun E' hE => ?_
    · obtain ⟨c2, c3, rfl, s2, s3⟩ := hE
      rw [List.getElem?_map] at hy
      obtain ⟨a, ha, rfl⟩ := Option.map_eq_some_iff.mp hy
      have hj : j < n := by
        have := (List.getElem?_eq_some_iff.mp ha).1
        rw [show (rnd n).length = n from (Row.rnd n).len] at this
        exact this
      unfold rnd at ha
      rw [List.getElem?_range' hj] at ha
      obtain rfl : j + 1 = a := by have := Option.some.inj ha; omega
      have it : rangeD (((j + 1 : Nat) : Int) + 1) ((((wks (l.map iD)).length : Nat) : Int) + 1 - (((j + 1 : Nat) : Int) + 1)).toNat = (List.range' (j + 1 + 1) (n - (j + 1))).map iD := by
        rw [eu, show ((j + 1 : Nat) : Int) + 1 = ((j + 1 + 1 : Nat) : Int) by omega, rangeD_eq]
        congr 2
        omega
      refine ⟨s2, ⟨by omega, by omega, by omega, by omega⟩, ?_⟩
      rw [it]
      refine for_inv (fun i E' => ∃ c3 : Cell, E' = [.val (rX l), .own (.lst ((pre n l j ++ inr n l (j + 1) i).map pT)), .val (iD (j + 1)), c3] ∧ canSet c3) ⟨c3, by unfold inr; rw [List.take_zero, List.map_nil, List.filter_nil, List.append_nil]; rfl, s3⟩ (fun i y E' next2 hy2 hE2 hN2 => ?_) fun E' hE2 => ?_
      · obtain ⟨c3, rfl, s3⟩ := hE2
        rw [List.getElem?_map] at hy2
        obtain ⟨b, hb, rfl⟩ := Option.map_eq_some_iff.mp hy2
        have hi : i < n - (j + 1) := by
          have := (List.getElem?_eq_some_iff.mp hb).1
          rw [List.length_range'] at this
          exact this
        rw [List.getElem?_range' hi] at hb
        obtain rfl : j + 1 + 1 + i = b := by have := Option.some.inj hb; omega
        have m1 : ((j + 1 : Nat) : Int) ∈ l.map fun i : Nat => (i : Int) := List.mem_map_of_mem (hR.mem.mpr ⟨by omega, by omega⟩)
        have m2 : ((j + 1 + 1 + i : Nat) : Int) ∈ l.map fun i : Nat => (i : Int) := List.mem_map_of_mem (hR.mem.mpr ⟨by omega, by omega⟩)
        have hpl := pre_len n l j (by omega)
        have hil := inr_len n l (j + 1) i
        have hmul : j * n ≤ 7 * 7 := Nat.mul_le_mul (by omega) hn
        refine ⟨s3, _, map_nat l, m2, _, map_nat l, m1, iteD (fun z => ?_) fun z => ?_⟩
        · rw [idx_nat, idx_nat] at z
          have ee := inr_succ l hi
          rw [if_pos (by omega)] at ee
          refine ⟨by show 2 ≤ _; omega, by rw [List.length_map, List.length_append]; omega, hN2 _ ⟨.val (iD (j + 1 + 1 + i)), ?_, trivial⟩⟩
          have e3 : (pre n l j ++ inr n l (j + 1) (i + 1)).map pT = (pre n l j ++ inr n l (j + 1) i).map pT ++ [pT (j + 1, j + 1 + 1 + i)] := by
            rw [ee, ← List.append_assoc, List.map_append]
            rfl
          rw [e3]
          rfl
        · rw [idx_nat, idx_nat] at z
          have ee := inr_succ l hi
          rw [if_neg (by omega), List.append_nil] at ee
          exact hN2 _ ⟨.val (iD (j + 1 + 1 + i)), (by rw [ee]; rfl), trivial⟩
      · obtain ⟨c3, rfl, s3⟩ := hE2
        rw [List.length_map, List.length_range']
        exact hN _ ⟨.val (iD (j + 1)), c3, by rw [pre_succ l hj], trivial, s3⟩
    · obtain ⟨c2, c3, rfl, s2, s3⟩ := hE
      rw [List.length_map, show (rnd n).length = n from (Row.rnd n).len, pre_all]
      exact fin_ok (post := post) (by walk_at "nb") k⟩
abbrev s_l_under : Stmt := topS 17
abbrev N_l_under : List Str := ["one", "other", "pair"]
theorem sc_l_under : FnScope N_l_under ["one", "other"] (defScope s_l_under) := ⟨rfl, rfl, rfl, by decide +kernel, rfl, by decide +kernel, by decide +kernel⟩
theorem C_l_under (bi : Bi mg) (C_l_pairs_of : Cal P w K mg base true "_law_pairs_of" 1 F_prs) (Df : DefAt K mg "_law_under" s_l_under ["one", "other"]) : Cal P w K mg base true "_law_under" 2 F_und :=
  cal_ok Df sc_l_under (fun cs post h => by obtain ⟨n, l, m, rfl, _⟩ := h; rfl) fun f cdv A outer s H E hr => ⟨_, (sss_one (ss_ret (se_cmp (ob_eq hr.units) (se_callB cb_len (by rfl) bi.len PySem.boot_len (sr_cons (se_lc (own := [("pair", 2)]) (ct := (.one 2)) rfl sc_l_under.nd (si_any (se_callC none C_l_pairs_of (hr.mono (by first | decide | omega)) (by rfl) (sr_cons (sv 0) sr_nil))) (blkOk_by (own := [("pair", 2)]) (N := N_l_under) (sc := defScope s_l_under) (by decide +kernel)) (by decide)
      (fun _ _ _ _ _ => pg_name (i := 2) sc_l_under.nd rfl (Or.inl rfl)) (fun _ _ _ _ _ => (sts_one (st_cmp (ob_notIn (u65 hr)) (sv 2) (se_callC none C_l_pairs_of (hr.mono (by first | decide | omega)) (by rfl) (sr_cons (sv 1) sr_nil))))) (fun _ _ _ _ _ => (sv 2))) sr_nil)) se_int))), fun cs post h => by
    obtain ⟨n, l, m, rfl, hL, hM, hn, k⟩ := h
    have e24 : sizeLine = 16777216 := by decide
    have hll := prs_len (l := l) hn
    refine ⟨n, l, rfl, hL, hn, _, rfl, lc_fm (fOut (prs n m)) _ _ [] (fun x hx k' hk => ?_) (by rw [List.length_map]; show 0 + _ ≤ _; omega) ?_⟩
    · obtain ⟨p, hp, rfl⟩ := List.mem_map.mp hx
      have hk2 : k' (if p ∈ prs n m then none else some (pT p)) _ := hk
      refine ⟨n, m, rfl, hM, hn, ⟨okd_pT 59 p, okd_pTs 58 _⟩, iteB (fun c => ?_) fun c => ?_⟩
      · have c2 : (!((prs n m).map pT).any fun z => D.eq z (pT p)) = true := c
        rw [any_pT, Bool.not_eq_true', decide_eq_false_iff_not] at c2
        rw [if_neg c2] at hk2
        exact hk2
      · have c2 : (!((prs n m).map pT).any fun z => D.eq z (pT p)) = false := c
        rw [any_pT, Bool.not_eq_false', decide_eq_true_eq] at c2
        rw [if_pos c2] at hk2
        exact hk2
    · rw [List.nil_append, fOut_map]
      have e : (((((prs n l).filter fun p => !decide (p ∈ prs n m)).map pT).length : Nat) == (0 : Int)) = (prs n l).all fun p => decide (p ∈ prs n m) := by
        rw [List.length_map, Bool.eq_iff_iff, beq_iff_eq, List.all_eq_true]
        constructor
        · intro h p hp
          have h0 : ((prs n l).filter fun p => !decide (p ∈ prs n m)).length = 0 := by omega
          have := List.filter_eq_nil_iff.mp (List.length_eq_zero_iff.mp h0) p hp
          simpa using this
        · intro h
          have : ((prs n l).filter fun p => !decide (p ∈ prs n m)) = [] := List.filter_eq_nil_iff.mpr fun p hp => by
            have := h p hp
            simpa using this
          rw [this]; rfl
      rw [← e] at k
      exact ⟨rfl, k⟩⟩
abbrev s_l_breaks : Stmt := topS 19
abbrev N_l_breaks : List Str := ["stage", "told", "a", "b", "c", "both", "none"]
theorem sc_l_breaks : FnScope N_l_breaks ["stage", "told"] (defScope s_l_breaks) := ⟨rfl, rfl, rfl, by decide +kernel, rfl, by decide +kernel, by decide +kernel⟩
theorem C_l_breaks (bi : Bi mg) (Df : DefAt K mg "_law_breaks" s_l_breaks ["stage", "told"]) : Cal P w K mg base true "_law_breaks" 1 F_brk :=
  cal_ok Df sc_l_breaks (fun cs post h => by obtain ⟨n, t, c, rfl, _⟩ := h; rfl) fun f cdv A outer s H E hr => ⟨_, (sss_cons (ss_for PassesOwn.never rfl (si_range2 (by rfl) bi.range (sr_cons se_int (sr_cons (se_bin ob_add (sv 0) se_int) sr_nil))) (sg_v 2 sc_l_breaks.nd)
    (sss_one (ss_for PassesOwn.never rfl (si_range2 (by rfl) bi.range (sr_cons (se_bin ob_add (sv 2) se_int) (sr_cons (se_bin ob_add (sv 0) se_int) sr_nil))) (sg_v 3 sc_l_breaks.nd)
    (sss_one (ss_for PassesOwn.never rfl (si_range2 (by rfl) bi.range (sr_cons (se_bin ob_add (sv 3) se_int) (sr_cons (se_bin ob_add (sv 0) se_int) sr_nil))) (sg_v 4 sc_l_breaks.nd)
    (sss_cons (ss_asg (se_and (se_cmp (ob_in (u65 hr)) (se_tup (sa_cons (sv 2) (sa_cons (sv 3) sa_nil))) (sv 1)) (se_one (se_cmp (ob_in (u65 hr)) (se_tup (sa_cons (sv 3) (sa_cons (sv 4) sa_nil))) (sv 1)))) (sg_v 5 sc_l_breaks.nd))
    (sss_cons (ss_asg (se_and (se_cmp (ob_notIn (u65 hr)) (se_tup (sa_cons (sv 2) (sa_cons (sv 3) sa_nil))) (sv 1)) (se_one (se_cmp (ob_notIn (u65 hr)) (se_tup (sa_cons (sv 3) (sa_cons (sv 4) sa_nil))) (sv 1)))) (sg_v 6 sc_l_breaks.nd))
    (sss_one (ss_if (sw_or (sw_and (st_val (sv 5)) (sw_and1 (st_cmp (ob_notIn (u65 hr)) (se_tup (sa_cons (sv 2) (sa_cons (sv 4) sa_nil))) (sv 1)))).st (sw_or1 (sw_and (st_val (sv 6)) (sw_and1 (st_cmp (ob_in (u65 hr)) (se_tup (sa_cons (sv 2) (sa_cons (sv 4) sa_nil))) (sv 1)))).st)).st
    (sss_one (ss_ret se_bl))
    sss_nil)))))))))
    (sss_one (ss_ret se_bl))), fun cs post h => by
    obtain ⟨n, t, c, rfl, hc, hn, k⟩ := h
    have e24 : sizeLine = 16777216 := by decide
    obtain ⟨c0, hc0⟩ : ∃ c0, c0 = c := ⟨_, rfl⟩
    have nb0 : nbC c0 := by rcases hc with rfl | rfl <;> (subst hc0; trivial)
    have ok1 : ∀ p : Nat × Nat, okd 60 (pT p) = true ∧ (t.map pT).all (okd 59) = true := fun p => ⟨okd_pT 59 p, okd_pTs 58 _⟩
    let good (a b c : Nat) : Prop := ((a, b) ∈ t → (b, c) ∈ t → (a, c) ∈ t) ∧ ((a, c) ∈ t → (a, b) ∈ t ∨ (b, c) ∈ t)
    have rg : ∀ a : Nat, rangeD ((a : Nat) + 1 : Int) (((n : Int) + 1) - ((a : Nat) + 1 : Int)).toNat = (List.range' (a + 1) (n - a)).map iD := fun a => by
      rw [show ((a : Nat) : Int) + 1 = ((a + 1 : Nat) : Int) by omega, rangeD_eq]
      congr 2
      omega
    have ra : ∀ {a i y : Nat}, (List.range' (a + 1) (n - a))[i]? = some y → i < n - a ∧ y = a + 1 + i := fun {a i y} h => by
      have h1 := (List.getElem?_eq_some_iff.mp h).1
      rw [List.length_range'] at h1
      rw [List.getElem?_range' h1] at h
      exact ⟨h1, by have := Option.some.inj h; omega⟩
    rcases hc with rfl | rfl
    all_goals
      refine ⟨⟨by decide, by decide, by omega, by omega⟩, ?_⟩
      rw [range_rnd]
      refine for_inv (fun j E' => ∃ c2 c3 c4 c5 c6 : Cell, E' = [.val (.int n), c0, c2, c3, c4, c5, c6] ∧ (∀ a b c, 1 ≤ a → a ≤ j → a < b → b < c → c ≤ n → good a b c) ∧ canSet c2 ∧ canSet c3 ∧ canSet c4 ∧ canSet c5 ∧ canSet c6) ⟨.un, .un, .un, .un, .un, by rw [hc0]; rfl, fun a b c h1 h2 => by omega, trivial, trivial, trivial, trivial, trivial⟩ (fun j y E' next hy hE hN => ?_) fun E' hE => ?_
      · obtain ⟨c2, c3, c4, c5, c6, rfl, hg, s2, s3, s4, s5, s6⟩ := hE
        rw [List.getElem?_map] at hy
        obtain ⟨a, ha, rfl⟩ := Option.map_eq_some_iff.mp hy
        obtain ⟨hj, rfl⟩ := ra (a := 0) (by rw [Nat.sub_zero]; exact ha)
        rw [Nat.zero_add] at *
        refine ⟨s2, ⟨by omega, by omega, by omega, by omega⟩, ?_⟩
        rw [rg]
        refine for_inv (fun i E' => ∃ c3 c4 c5 c6 : Cell, E' = [.val (.int n), c0, .val (iD (1 + j)), c3, c4, c5, c6] ∧ (∀ b c, 1 + j < b → b ≤ 1 + j + i → b < c → c ≤ n → good (1 + j) b c) ∧ canSet c3 ∧ canSet c4 ∧ canSet c5 ∧ canSet c6) ⟨c3, c4, c5, c6, rfl, fun b c h1 h2 => by omega, s3, s4, s5, s6⟩ (fun i y E' next2 hy2 hE2 hN2 => ?_) fun E' hE2 => ?_
        · obtain ⟨c3, c4, c5, c6, rfl, hg2, s3, s4, s5, s6⟩ := hE2
          rw [List.getElem?_map] at hy2
          obtain ⟨b, hb, rfl⟩ := Option.map_eq_some_iff.mp hy2
          obtain ⟨hi, rfl⟩ := ra hb
          refine ⟨s3, ⟨by omega, by omega, by omega, by omega⟩, ?_⟩
          rw [rg]
          refine for_inv (fun v E' => ∃ c4 c5 c6 : Cell, E' = [.val (.int n), c0, .val (iD (1 + j)), .val (iD (1 + j + 1 + i)), c4, c5, c6] ∧ (∀ c, 1 + j + 1 + i < c → c ≤ 1 + j + 1 + i + v → c ≤ n → good (1 + j) (1 + j + 1 + i) c) ∧ canSet c4 ∧ canSet c5 ∧ canSet c6) ⟨c4, c5, c6, rfl, fun c h1 h2 => by omega, s4, s5, s6⟩ (fun v y E' next3 hy3 hE3 hN3 => ?_) fun E' hE3 => ?_
          · obtain ⟨c4, c5, c6, rfl, hg3, s4, s5, s6⟩ := hE3
            rw [List.getElem?_map] at hy3
            obtain ⟨c, hcc, rfl⟩ := Option.map_eq_some_iff.mp hy3
            obtain ⟨hv, rfl⟩ := ra hcc
            subst hc0
            generalize hA : 1 + j = a at *
            generalize hB : a + 1 + i = b at *
            generalize hC : b + 1 + v = c at *
            have e1 : ((t.map pT).any fun z => D.eq z (.tup [iD a, iD b])) = decide ((a, b) ∈ t) := any_pT t (a, b)
            have e2 : ((t.map pT).any fun z => D.eq z (.tup [iD b, iD c])) = decide ((b, c) ∈ t) := any_pT t (b, c)
            have e3 : ((t.map pT).any fun z => D.eq z (.tup [iD a, iD c])) = decide ((a, c) ∈ t) := any_pT t (a, c)
            have two : 2 ≤ sizeLine := by omega
            have ab : a < b := by omega
            have bc : b < c := by omega
            have cn : c ≤ n := by omega
            have a1 : 1 ≤ a := by omega
            have kt : ¬ good a b c → post (.val (.bl true)) none := fun z => k true ⟨fun _ h => z (h a b c a1 ab bc cn), fun _ => rfl⟩
            have nx : good a b c → ∀ x y : Bool, next3 [.val (.int n), _, .val (iD a), .val (iD b), .val (iD c), .val (.bl x), .val (.bl y)] := fun z x y => hN3 _ ⟨.val (iD c), .val (.bl x), .val (.bl y), rfl, fun d h1 h2 h3 => by
              by_cases e : d = c
              · rw [e]; exact z
              · exact hg3 d h1 (by omega) h3, trivial, trivial, trivial⟩
            refine ⟨s4, two, ok1 (a, b), ?_⟩
            by_cases m1 : (a, b) ∈ t
            · refine ifT (by show ((t.map pT).any fun z => D.eq z (.tup [iD a, iD b])) = true; rw [e1]; exact decide_eq_true m1) ⟨two, ok1 (b, c), s5, two, ok1 (a, b), ifF (by show (!(t.map pT).any fun z => D.eq z (.tup [iD a, iD b])) = false; rw [e1, decide_eq_true m1]; rfl) ⟨s6, ?_⟩⟩
              dsimp only [sNext, put, upB, BD.nth]
              refine iteB (fun q2 => ⟨two, ok1 (a, c), iteB (fun q3 => ?_) fun q3 => ?_⟩) fun q2 => ?_
              · have q2' : ((t.map pT).any fun z => D.eq z (.tup [iD b, iD c])) = true := q2
                have q3' : (!(t.map pT).any fun z => D.eq z (.tup [iD a, iD c])) = true := q3
                rw [e2, decide_eq_true_eq] at q2'
                rw [e3, Bool.not_eq_true', decide_eq_false_iff_not] at q3'
                exact fin_ok (post := post) (by walk_at "nb") (kt fun z => q3' (z.1 m1 q2'))
              · have q3' : (!(t.map pT).any fun z => D.eq z (.tup [iD a, iD c])) = false := q3
                rw [e3, Bool.not_eq_false', decide_eq_true_eq] at q3'
                exact nx ⟨fun _ _ => q3', fun _ => .inl m1⟩ _ _
              · have q2' : ((t.map pT).any fun z => D.eq z (.tup [iD b, iD c])) = false := q2
                rw [e2, decide_eq_false_iff_not] at q2'
                exact nx ⟨fun _ z => absurd z q2', fun _ => .inl m1⟩ _ _
            · refine ifF (by show ((t.map pT).any fun z => D.eq z (.tup [iD a, iD b])) = false; rw [e1]; exact decide_eq_false m1) ⟨s5, two, ok1 (a, b), ifT (by show (!(t.map pT).any fun z => D.eq z (.tup [iD a, iD b])) = true; rw [e1, decide_eq_false m1]; rfl) ⟨two, ok1 (b, c), s6, ?_⟩⟩
              dsimp only [sNext, put, upB, BD.nth]
              refine iteB (fun q2 => ⟨two, ok1 (a, c), iteB (fun q3 => ?_) fun q3 => ?_⟩) fun q2 => ?_
              · have q2' : (!(t.map pT).any fun z => D.eq z (.tup [iD b, iD c])) = true := q2
                have q3' : ((t.map pT).any fun z => D.eq z (.tup [iD a, iD c])) = true := q3
                rw [e2, Bool.not_eq_true', decide_eq_false_iff_not] at q2'
                rw [e3, decide_eq_true_eq] at q3'
                exact fin_ok (post := post) (by walk_at "nb") (kt fun z => (z.2 q3').elim m1 q2')
              · have q3' : ((t.map pT).any fun z => D.eq z (.tup [iD a, iD c])) = false := q3
                rw [e3, decide_eq_false_iff_not] at q3'
                exact nx ⟨fun z => absurd z m1, fun z => absurd z q3'⟩ _ _
              · have q2' : (!(t.map pT).any fun z => D.eq z (.tup [iD b, iD c])) = false := q2
                rw [e2, Bool.not_eq_false', decide_eq_true_eq] at q2'
                exact nx ⟨fun z => absurd z m1, fun _ => .inr q2'⟩ _ _
          · obtain ⟨c4, c5, c6, rfl, hg3, s4, s5, s6⟩ := hE3
            rw [List.length_map, List.length_range'] at hg3
            refine hN2 _ ⟨.val (iD (1 + j + 1 + i)), c4, c5, c6, rfl, fun b c h1 h2 h3 h4 => ?_, trivial, s4, s5, s6⟩
            by_cases e : b = 1 + j + 1 + i
            · subst e
              exact hg3 c h3 (by omega) h4
            · exact hg2 b c h1 (by omega) h3 h4
        · obtain ⟨c3, c4, c5, c6, rfl, hg2, s3, s4, s5, s6⟩ := hE2
          rw [List.length_map, List.length_range'] at hg2
          refine hN _ ⟨.val (iD (1 + j)), c3, c4, c5, c6, rfl, fun a b c h1 h2 h3 h4 h5 => ?_, trivial, s3, s4, s5, s6⟩
          by_cases e : a = 1 + j
          · subst e
            exact hg2 b c h3 (by omega) h4 h5
          · exact hg a b c h1 (by omega) h3 h4 h5
      · obtain ⟨c2, c3, c4, c5, c6, rfl, hg, s2, s3, s4, s5, s6⟩ := hE
        rw [List.length_map, show (rnd n).length = n from (Row.rnd n).len] at hg
        have hclo : Clo n t := fun a b c h1 h2 h3 h4 => hg a b c h1 (by omega) h2 h3 h4
        exact fin_ok (post := post) (by walk_at "nb") (k false ⟨fun z => absurd z Bool.false_ne_true, fun z => absurd hclo z⟩)⟩
end
end BL
set_option Elab.async false
set_option linter.all false
set_option maxRecDepth 100000
set_option maxHeartbeats 4000000
namespace BL
open PySem PySem.Spec PyProof.Rows L2 BD
local macro_rules | `(tactic| walk_at "nb") => `(tactic| repeat' (first | exact trivial | assumption | (apply fv.nb; assumption) | refine And.intro ?_ ?_))
theorem lc_invF {ct : CT} {tt : DT} {de : DV} {vs : List Nat} {done : List D → List Cell → Prop} (I : Nat → List D → List Cell → Prop) : ∀ (items : List D) (i : Nat) (acc : List D) (E : List Cell), acc.length + items.length ≤ sizeLine → I i acc E →
    (∀ (j : Nat) (x : D) (acc : List D) (E : List Cell) (k : D → List Cell → Prop) (k' : List Cell → Prop), i ≤ j → items[j - i]? = some x → I j acc E → (∀ y E', I (j + 1) (acc ++ [y]) E' → k y E') → (∀ E', I (j + 1) acc E' → k' E') → putCT ct x E fun E1 => tt E1 fun b E2 => if b = true then de E2 fun y E3 => k y (wipeE E3 vs) else k' (wipeE E2 vs)) →
    (∀ acc E, I (i + items.length) acc E → done acc E) → lcL ct tt de vs done items acc E
  | [], i, acc, E, _, h0, _, h2 => h2 acc E h0
  | x :: r, i, acc, E, hl, h0, h1, h2 => by
    rw [List.length_cons] at hl
    have nxt : ∀ acc' E', acc'.length ≤ acc.length + 1 → I (i + 1) acc' E' → lcL ct tt de vs done r acc' E' := fun acc' E' hl' h =>
      lc_invF I r (i + 1) acc' E' (by omega) h (fun j z acc2 E2 k k' hj hy h3 h4 h5 => h1 j z acc2 E2 k k' (by omega) (by rw [show j - i = (j - (i + 1)) + 1 by omega]; exact hy) h3 h4 h5) fun acc2 E2 h3 => h2 acc2 E2 (by rw [List.length_cons, show i + (r.length + 1) = i + 1 + r.length by omega]; exact h3)
    exact h1 i x acc E (fun y E' => acc.length < sizeLine ∧ lcL ct tt de vs done r (acc ++ [y]) E') (fun E' => lcL ct tt de vs done r acc E') (Nat.le_refl i) (by rw [Nat.sub_self]; rfl) h0 (fun y E' h => ⟨by omega, nxt _ _ (by rw [List.length_append, List.length_singleton]; exact Nat.le_refl _) h⟩) fun E' h => nxt _ _ (by omega) h
def evp (n j : Nat) : List (Nat × Nat) := ((List.range' 1 n).take j).flatMap fun a => (List.range' (a + 1) (n - a)).map fun b => (a, b)
theorem evp_all (n : Nat) : evp n n = evr n := by
  unfold evp evr
  rw [List.take_of_length_le (by rw [List.length_range']; exact Nat.le_refl _)]
theorem evp_succ {n j : Nat} (h : j < n) : evp n (j + 1) = evp n j ++ (List.range' (j + 1 + 1) (n - (j + 1))).map fun b => (j + 1, b) := by
  unfold evp
  rw [List.take_add_one, List.getElem?_range' h, List.flatMap_append]
  congr 1
  show List.flatMap _ [1 + 1 * j] = _
  rw [List.flatMap_cons, List.flatMap_nil, List.append_nil, show 1 + 1 * j = j + 1 by omega]
theorem evp_len (n : Nat) : ∀ j, j ≤ n → (evp n j).length ≤ j * n
  | 0, _ => Nat.zero_le _
  | j + 1, h => by
    rw [evp_succ (by omega), List.length_append, Nat.succ_mul, List.length_map, List.length_range']
    have := evp_len n j (by omega)
    omega
def fPr (a : Nat) : D → D
  | .int b => .tup [iD a, .int b]
  | _ => .non
theorem oks2_rT {l : List Nat} (h : l.length ≤ 1000) : oks 2 (.tup (l.map iD)) = true := by
  have e24 : sizeLine = 16777216 := by decide
  show (decide ((l.map iD).length ≤ sizeLine) && (l.map iD).all (oks 1)) = true
  rw [Bool.and_eq_true, decide_eq_true_eq, List.length_map]
  refine ⟨by omega, List.all_eq_true.mpr fun d hd => ?_⟩
  obtain ⟨p, _, rfl⟩ := List.mem_map.mp hd
  rfl
section
variable {P : Program} {w : World} {K : PySem.W.Frag} {mg : Str → Option Value} {base : Heap}
abbrev s_law : Stmt := topS 20
abbrev N_law : List Str := ["script", "pool", "turn", "stage", "row", "told", "everyone", "a", "some", "found", "other", "pair", "due", "above", "at", "step", "b"]
theorem sc_law : FnScope N_law ["script"] (defScope s_law) := ⟨rfl, rfl, rfl, by decide +kernel, rfl, by decide +kernel, by decide +kernel⟩
theorem C_law (bi : Bi mg)
    (C_l_pool : Cal P w K mg base true "_law_pool" 3 F_pool) (C_l_next : Cal P w K mg base true "_law_next" 3 F_next) (C_l_draw : Cal P w K mg base true "_law_draw" 3 F_draw)
    (C_l_pick : Cal P w K mg base true "_law_pick" 4 F_pick) (C_l_same : Cal P w K mg base true "_law_same" 4 (F_same 2)) (C_l_row : Cal P w K mg base true "_law_row" 5 F_row)
    (C_l_pairs_of : Cal P w K mg base true "_law_pairs_of" 1 F_prs) (C_l_under : Cal P w K mg base true "_law_under" 2 F_und) (C_l_breaks : Cal P w K mg base true "_law_breaks" 1 F_brk)
    (C_unlike_of : Cal P w K mg base true "unlike_of" 1 F_unl) (C_row_with : Cal P w K mg base true "row_with" 2 F_rw) (C_is_below : Cal P w K mg base true "is_below" 2 F_below)
    (C_just_above : Cal P w K mg base true "just_above" 1 F_just) (C_judge_not_below : Cal P w K mg base true "judge_not_below" 2 F_judge)
    {f : Addr} {fd : FuncData} (F : Fun K "law" "law" s_law f fd) : FnOk P w K mg base CX0 6 f fd ["script"] (spD true K FLaw) :=
  fn_ok F sc_law (fun cs post h => by obtain ⟨a, rfl, _⟩ := h; rfl) fun cdv A outer s H E hr => ⟨_, (sss_cons (ss_asg (se_callC none C_l_pool (hr.mono (by first | decide | omega)) (by rfl) (sr_cons (sv 0) sr_nil)) (sg_o 1 sc_law.nd))
    (sss_cons (ss_for PassesOwn.never rfl (si_range1 (by rfl) bi.range (sr_cons se_int sr_nil)) (sg_v 2 sc_law.nd)
    (sss_cons (ss_expr (se_callC (some (0, 1)) C_l_next (hr.mono (by first | decide | omega)) (by rfl) (sr_cons (sv 1) sr_nil)))
    (sss_cons (ss_asg (se_bin ob_add se_int (se_callC (some (0, 1)) C_l_draw (hr.mono (by first | decide | omega)) (by rfl) (sr_cons (sv 1) (sr_cons se_int sr_nil)))) (sg_v 3 sc_law.nd))
    (sss_cons (ss_asg (se_callC (some (0, 1)) C_l_row (hr.mono (by first | decide | omega)) (by rfl) (sr_cons (sv 1) (sr_cons (sv 3) sr_nil))) (sg_v 4 sc_law.nd))
    (sss_cons (ss_asg (se_callC none C_l_pairs_of (hr.mono (by first | decide | omega)) (by rfl) (sr_cons (sv 4) sr_nil)) (sg_v 5 sc_law.nd))
    (sss_cons (ss_if (sw_or (st_not (st_val (se_callC none C_l_same (hr.mono (by first | decide | omega)) (by rfl) (sr_cons (se_wk (se_callC none C_unlike_of (hr.mono (by first | decide | omega)) (by rfl) (sr_cons (sv 4) sr_nil))) (sr_cons (se_wk (sv 5)) sr_nil))))) (sw_or1 (st_not (st_val (se_callC none C_l_same (hr.mono (by first | decide | omega)) (by rfl) (sr_cons (se_wk (se_callC none C_row_with (hr.mono (by first | decide | omega)) (by rfl) (sr_cons (sv 3) (sr_cons (se_callTy cb_list (by rfl) bi.list boot_list (sr_cons (sv 5) sr_nil)) sr_nil)))) (sr_cons (se_wk (se_wk (sv 4))) sr_nil))))))).st
    (sss_one (ss_ret se_bl))
    sss_nil)
    (sss_cons (ss_asg (se_lst sa_nil) (sg_v 6 sc_law.nd))
    (sss_cons (ss_for PassesOwn.never rfl (si_range2 (by rfl) bi.range (sr_cons se_int (sr_cons (se_bin ob_add (sv 3) se_int) sr_nil))) (sg_v 7 sc_law.nd)
    (sss_one (ss_asg (se_bin ob_add (sv 6) (se_lc (own := [("b", 16)]) (ct := (.one 16)) rfl sc_law.nd (si_range2 (by rfl) bi.range (sr_cons (se_bin ob_add (sv 7) se_int) (sr_cons (se_bin ob_add (sv 3) se_int) sr_nil))) (blkOk_by (own := [("b", 16)]) (N := N_law) (sc := defScope s_law) (by decide +kernel)) (by decide)
      (fun _ _ _ _ _ => pg_name (i := 16) sc_law.nd rfl (Or.inl rfl)) (fun _ _ _ _ _ => sts_nil) (fun _ _ _ _ _ => (se_tup (sa_cons (sv 7) (sa_cons (sv 16) sa_nil)))))) (sg_v 6 sc_law.nd))))
    (sss_cons (ss_setLc (own := [("pair", 11)]) (ct := (.one 11)) 8 rfl sc_law.nd rfl rfl gV_lk (sw_true rfl rfl rfl (by decide +kernel)) (si_any (sv 6)) (blkOk_by (own := [("pair", 11)]) (N := N_law) (sc := defScope s_law) (by decide +kernel)) (by decide)
      (fun _ _ _ _ _ => pg_name (i := 11) sc_law.nd rfl (Or.inl rfl)) (fun _ _ _ _ _ => (sts_one (st_cmp (ob_ne hr.units) (se_cmp (ob_in (u65 hr)) (sv 11) (sv 5)) (se_cmp (ob_eq hr.units) (se_callC (some (0, 1)) C_l_draw (hr.mono (by first | decide | omega)) (by rfl) (sr_cons (sv 1) (sr_cons se_int sr_nil))) se_int)))) (fun _ _ _ _ _ => (sv 11)))
    (sss_cons (ss_asg (se_callC none C_row_with (hr.mono (by first | decide | omega)) (by rfl) (sr_cons (sv 3) (sr_cons (se_callTy cb_list (by rfl) bi.list boot_list (sr_cons (sv 8) sr_nil)) sr_nil))) (sg_v 9 sc_law.nd))
    (sss_cons (ss_if (sw_or (st_cmp (ob_ne hr.units) (se_cmp ob_is (sv 9) se_non) (se_callC none C_l_breaks (hr.mono (by first | decide | omega)) (by rfl) (sr_cons (sv 3) (sr_cons (sv 8) sr_nil)))) (sw_or1 (sw_and (st_cmp ob_isNot (sv 9) se_non) (sw_and1 (st_cmp (ob_ne hr.units) (se_callC none C_l_pairs_of (hr.mono (by first | decide | omega)) (by rfl) (sr_cons (sv 9) sr_nil)) (sv 8)))).st)).st
    (sss_one (ss_ret se_bl))
    sss_nil)
    (sss_cons (ss_asg (se_callC (some (0, 1)) C_l_row (hr.mono (by first | decide | omega)) (by rfl) (sr_cons (sv 1) (sr_cons (sv 3) sr_nil))) (sg_v 10 sc_law.nd))
    (sss_cons (ss_if (st_cmp (ob_eq hr.units) (se_callC (some (0, 1)) C_l_draw (hr.mono (by first | decide | omega)) (by rfl) (sr_cons (sv 1) (sr_cons se_int sr_nil))) se_int)
    (sss_cons (ss_asg (sv 4) (sg_v 10 sc_law.nd))
    (sss_one (ss_for PassesOwn.never rfl (si_range1 (by rfl) bi.range (sr_cons se_int sr_nil)) (sg_v 15 sc_law.nd)
    (sss_cons (ss_asg (se_callC (some (0, 1)) C_l_draw (hr.mono (by first | decide | omega)) (by rfl) (sr_cons (sv 1) (sr_cons (se_bin ob_sub (sv 3) se_int) sr_nil))) (sg_v 14 sc_law.nd))
    (sss_one (ss_if (st_cmp ob_lt (se_ix (se_wk (sv 10)) (sv 14)) (se_ix (se_wk (sv 10)) (se_bin ob_add (sv 14) se_int)))
    (sss_one (ss_asg (se_bin ob_catX (se_bin ob_catX (se_slice (se_wk (sv 10)) so_none (so_some (sv 14))) (se_tup (sa_cons (se_ix (se_wk (sv 10)) (se_bin ob_add (sv 14) se_int)) (sa_cons (se_ix (se_wk (sv 10)) (sv 14)) sa_nil)))) (se_slice (se_wk (sv 10)) (so_some (se_bin ob_add (sv 14) se_int)) so_none)) (sg_v 10 sc_law.nd)))
    sss_nil))))))
    sss_nil)
    (sss_cons (ss_if (st_not (st_val (se_callC none C_l_same (hr.mono (by first | decide | omega)) (by rfl) (sr_cons (se_wk (se_callC none C_is_below (hr.mono (by first | decide | omega)) (by rfl) (sr_cons (sv 4) (sr_cons (sv 10) sr_nil)))) (sr_cons (se_wk (se_callC none C_l_under (hr.mono (by first | decide | omega)) (by rfl) (sr_cons (sv 4) (sr_cons (sv 10) sr_nil)))) sr_nil)))))
    (sss_one (ss_ret se_bl))
    sss_nil)
    (sss_cons (ss_asg (se_callC (some (0, 1)) C_l_pick (hr.mono (by first | decide | omega)) (by rfl) (sr_cons (sv 1) (sr_cons (sv 6) sr_nil))) (sg_v 11 sc_law.nd))
    (sss_cons (ss_asg (se_and (se_cmp (ob_in (u65 hr)) (sv 11) (sv 5)) (se_one (se_cmp (ob_notIn (u65 hr)) (sv 11) (se_callC none C_l_pairs_of (hr.mono (by first | decide | omega)) (by rfl) (sr_cons (sv 10) sr_nil))))) (sg_v 12 sc_law.nd))
    (sss_cons (ss_if (sw_or (st_not (st_val (se_callC none C_l_same (hr.mono (by first | decide | omega)) (by rfl) (sr_cons (se_wk (se_callC none C_judge_not_below (hr.mono (by first | decide | omega)) (by rfl) (sr_cons (sv 4) (sr_cons (sv 10) (sr_cons (sv 11) sr_nil))))) (sr_cons (se_wk (sv 12)) sr_nil))))) (sw_or1 (sw_and (st_val (sv 12)) (sw_and1 (st_val (se_callC none C_is_below (hr.mono (by first | decide | omega)) (by rfl) (sr_cons (sv 4) (sr_cons (sv 10) sr_nil)))))).st)).st
    (sss_one (ss_ret se_bl))
    sss_nil)
    (sss_cons (ss_asg (se_lst sa_nil) (sg_o 13 sc_law.nd))
    (sss_cons (ss_for PassesOwn.never rfl (si_range1 (by rfl) bi.range (sr_cons (se_bin ob_sub (sv 3) se_int) sr_nil)) (sg_v 14 sc_law.nd)
    (sss_one (ss_if (st_cmp ob_lt (se_ix (se_wk (sv 4)) (sv 14)) (se_ix (se_wk (sv 4)) (se_bin ob_add (sv 14) se_int)))
    (sss_one (ss_expr (se_append 13 (sa_cons (se_bin ob_add (se_bin ob_add (se_slice (se_wk (sv 4)) so_none (so_some (sv 14))) (se_tup (sa_cons (se_ix (se_wk (sv 4)) (se_bin ob_add (sv 14) se_int)) (sa_cons (se_ix (se_wk (sv 4)) (sv 14)) sa_nil)))) (se_slice (se_wk (sv 4)) (so_some (se_bin ob_add (sv 14) se_int)) so_none)) sa_nil))))
    sss_nil)))
    (sss_one (ss_if (st_not (st_val (se_callC none C_l_same (hr.mono (by first | decide | omega)) (by rfl) (sr_cons (se_wk (se_callC none C_just_above (hr.mono (by first | decide | omega)) (by rfl) (sr_cons (se_wk (sv 4)) sr_nil))) (sr_cons (se_wk (se_callB (cb_sorted' (u65 hr)) (by rfl) bi.sorted boot_sorted (sr_cons (sv 13) sr_nil))) sr_nil)))))
    (sss_one (ss_ret se_bl))
    sss_nil)))))))))))))))))))))
    (sss_one (ss_ret se_bl)))), fun cs post h => by
    obtain ⟨ns, rfl, hl, hb, k⟩ := h
    have e24 : sizeLine = 16777216 := by decide
    have lt : lineT = 1000000 := rfl
    refine ⟨ns, rfl, hl, hb, fun d0 P0 => ⟨trivial, ⟨by decide, by decide⟩, for_inv (fun j E' => ∃ (d : D) (c2 c3 c4 c5 c6 c7 c8 c9 c10 c11 c12 c13 c14 c15 : Cell), E' = [.val (.scr ns), .own d, c2, c3, c4, c5, c6, c7, c8, c9, c10, c11, c12, c13, c14, c15, .un] ∧ Pool (j * 100) d ∧ canSet c2 ∧ canSet c3 ∧ canSet c4 ∧ canSet c5 ∧ canSet c6 ∧ canSet c7 ∧ canSet c8 ∧ canSet c9 ∧ canSet c10 ∧ canSet c11 ∧ canSet c12 ∧ canSet c13 ∧ canSet c14 ∧ canSet c15) ⟨d0, .un, .un, .un, .un, .un, .un, .un, .un, .un, .un, .un, .un, .un, .un, rfl, P0, trivial, trivial, trivial, trivial, trivial, trivial, trivial, trivial, trivial, trivial, trivial, trivial, trivial, trivial⟩ (fun j y E' next hy hE hN => ?_) fun E' hE => ?_⟩⟩
    · obtain ⟨d, c2, c3, c4, c5, c6, c7, c8, c9, c10, c11, c12, c13, c14, c15, rfl, P0, s2, s3, s4, s5, s6, s7, s8, s9, s10, s11, s12, s13, s14, s15⟩ := hE
      obtain ⟨hj, rfl⟩ := range_at hy
      have hj' : j < 4 := by have : (4 : Int).toNat = 4 := rfl; omega
      refine ⟨s2, rfl, j * 100, d, rfl, P0, by omega, fun d1 P1 => ⟨rfl, j * 100 + 1, d1, 5, rfl, P1, by omega, by decide, by decide, fun d2 v P2 v0 v1 => ?_⟩⟩
      obtain ⟨n, hnv⟩ : ∃ n : Nat, (3 : Int) + v = n := ⟨(3 + v).toNat, by omega⟩
      have hn3 : 3 ≤ n := by omega
      have hn7 : n ≤ 7 := by omega
      refine ⟨s3, ?_⟩
      dsimp only [sNext, put, upB, BD.nth]
      rw [hnv]
      refine ⟨rfl, j * 100 + 1 + 1, d2, n, rfl, P2, by omega, by omega, fun d3 l P3 hL => ⟨s4, n, l, rfl, hL, hn7, s5, ?_⟩⟩
      dsimp only [sNext, put, upB, BD.nth]
      have hpl := prs_len (l := l) hn7
      have sub : (prs n l).Sublist (evr n) := List.filter_sublist
      have b1 : oks 2 (.lst (wks ((prs n l).map kP))) = true := by rw [wks_kP]; exact oks_pTs (by omega)
      have b2 : oks 2 (.lst (wks ((prs n l).map pT))) = true := by rw [wks_pT]; exact oks_pTs (by omega)
      have b3 : (!sameD (.lst (wks ((prs n l).map kP))) (.lst (wks ((prs n l).map pT)))) = false := by
        rw [wks_kP, wks_pT, sameD_refl 2 _ (oks_pTs (by omega))]; rfl
      refine ⟨n, l, _, rfl, .inl rfl, hL, hn7, _, _, _, _, rfl, .inr rfl, .inl rfl, b1, b2, ifF b3 ?_⟩
      refine ⟨n, prs n l, _, rfl, .inr rfl, sub, hn7, ?_⟩
      rw [if_pos (show prs n (rwB (prs n l) n) = prs n l by rw [rwB_prs hL]), rwB_prs hL]
      have o2 : oks 2 (.tup (l.map iD)) = true := oks2_rT (by rw [hL.len]; omega)
      have b4 : oks 2 (.tup (wks (l.map iD))) = true := by rw [wks_iD]; exact o2
      have b5 : oks 2 (.tup (wks (wks (l.map iD)))) = true := by rw [wks_iD, wks_iD]; exact o2
      have b6 : (!sameD (.tup (wks (l.map iD))) (.tup (wks (wks (l.map iD))))) = false := by
        rw [wks_iD, wks_iD, sameD_refl 2 _ o2]; rfl
      refine ⟨_, _, _, _, rfl, .inl rfl, .inl rfl, b4, b5, ifF b6 ⟨Nat.zero_le _, s6, ⟨by decide, by decide, by omega, by omega⟩, ?_⟩⟩
      rw [range_rnd]
      refine for_inv (fun i E' => ∃ c7 : Cell, E' = [.val (.scr ns), .own d3, .val (.int (0 + (j : Nat))), .val (.int n), .val (rX l), .val (.lst ((prs n l).map pT)), .val (.lst ((evp n i).map pT)), c7, c8, c9, c10, c11, c12, c13, c14, c15, .un] ∧ canSet c7) ⟨c7, rfl, s7⟩ (fun i y E' next2 hy2 hE2 hN2 => ?_) fun E' hE2 => ?_
      · obtain ⟨c7, rfl, s7⟩ := hE2
        rw [List.getElem?_map] at hy2
        obtain ⟨a, ha, rfl⟩ := Option.map_eq_some_iff.mp hy2
        have hi : i < n := by
          have := (List.getElem?_eq_some_iff.mp ha).1
          rw [show (rnd n).length = n from (Row.rnd n).len] at this
          exact this
        unfold rnd at ha
        rw [List.getElem?_range' hi] at ha
        obtain rfl : i + 1 = a := by have := Option.some.inj ha; omega
        have it : rangeD (((i + 1 : Nat) : Int) + 1) ((n : Int) + 1 - (((i + 1 : Nat) : Int) + 1)).toNat = (List.range' (i + 1 + 1) (n - (i + 1))).map iD := by
          rw [show ((i + 1 : Nat) : Int) + 1 = ((i + 1 + 1 : Nat) : Int) by omega, rangeD_eq]
          congr 2
          omega
        have hev := evp_len n i (by omega)
        have hmul : i * n ≤ 7 * 7 := Nat.mul_le_mul (by omega) hn7
        refine ⟨s7, ⟨by omega, by omega, by omega, by omega⟩, ?_⟩
        rw [it]
        refine lc_map (fPr (i + 1)) _ _ (fun x hx k' hk => ?_) (by rw [List.length_map, List.length_range']; omega) ?_
        · obtain ⟨b, hb, rfl⟩ := List.mem_map.mp hx
          exact ⟨by show 2 ≤ _; omega, hk⟩
        · refine ⟨by rw [List.length_map, List.length_map, List.length_map, List.length_range']; omega, trivial, hN2 _ ⟨.val (iD (i + 1)), ?_, trivial⟩⟩
          have e3 : (evp n (i + 1)).map pT = (evp n i).map pT ++ ((List.range' (i + 1 + 1) (n - (i + 1))).map iD).map (fPr (i + 1)) := by
            rw [evp_succ hi, List.map_append, List.map_map, List.map_map]; rfl
          rw [e3]
          rfl
      obtain ⟨c7, rfl, s7⟩ := hE2
      rw [List.length_map, show (rnd n).length = n from (Row.rnd n).len, evp_all]
      have hel := evr_len hn7
      refine ⟨_, rfl, lc_invF (fun i acc E => ∃ (d : D) (t : List (Nat × Nat)), E = [.val (.scr ns), .own d, .val (.int (0 + (j : Nat))), .val (.int n), .val (rX l), .val (.lst ((prs n l).map pT)), .val (.lst ((evr n).map pT)), c7, c8, c9, c10, .un, c12, c13, c14, c15, .un] ∧ Pool (j * 100 + 2 + n + i) d ∧ acc = t.map pT ∧ t.Sublist ((evr n).take i)) _ 0 [] _ (by rw [List.length_map]; show 0 + _ ≤ _; omega) ⟨d3, [], rfl, P3, rfl, List.nil_sublist _⟩ (fun i x acc E k1 k2 _ hx hI hk hk' => ?_) fun acc E hI => ?_⟩
      · obtain ⟨d4, t, rfl, P4, rfl, ht⟩ := hI
        rw [Nat.sub_zero, List.getElem?_map] at hx
        obtain ⟨p, hp, rfl⟩ := Option.map_eq_some_iff.mp hx
        have hi := (List.getElem?_eq_some_iff.mp hp).1
        have et : (evr n).take (i + 1) = (evr n).take i ++ [p] := by rw [List.take_add_one, hp]; rfl
        refine ⟨⟨okd_pT 59 p, okd_pTs 58 _⟩, rfl, j * 100 + 2 + n + i, d4, 6, rfl, P4, by omega, by decide, by decide, fun d5 v P5 v0 v1 => ⟨rfl, rfl, iteB (fun z => ?_) fun z => ?_⟩⟩
        · exact hk (pT p) _ ⟨d5, t ++ [p], rfl, P5, by rw [List.map_append]; rfl, by rw [et]; exact ht.append (List.Sublist.refl _)⟩
        · exact hk' _ ⟨d5, t, rfl, P5, rfl, by rw [et]; exact ht.trans (List.sublist_append_left _ _)⟩
      obtain ⟨d4, t, rfl, P4, rfl, ht⟩ := hI
      rw [List.length_map] at P4 ht
      rw [Nat.zero_add, List.take_length] at ht
      rw [Nat.zero_add] at P4
      have htl : t.length ≤ 21 := Nat.le_trans ht.length_le hel
      have htake : (0 : Nat) ≤ 0 := Nat.le_refl _
      refine ⟨s8, n, t, _, rfl, .inr rfl, ht, hn7, s9, ?_⟩
      dsimp only [sNext, put, upB, BD.nth, wipeE, restore, List.map]
      refine seqJoin (fun E' => ∃ x9 : D, E' = [.val (.scr ns), .own d4, .val (.int (0 + (j : Nat))), .val (.int n), .val (rX l), .val (.lst ((prs n l).map pT)), .val (.lst ((evr n).map pT)), c7, .val (.lst (t.map pT)), .val x9, c10, c11, c12, c13, c14, c15, .un]) ?_ fun jn => ?_
      rotate_left
      · by_cases hc : prs n (rwB t n) = t
        · rw [if_pos hc]
          refine ⟨rfl, n, t, _, rfl, .inl rfl, hn7, fun b hbb => ?_⟩
          obtain rfl : b = false := by
            cases b with
            | false => rfl
            | true => exact absurd ((prs_iff ht).mp hc) (hbb.mp rfl)
          have w1 : (!D.eq (.lst ((prs n (rwB t n)).map pT)) (.lst (t.map pT))) = false := by
            rw [hc]
            show (!D.eqs (t.map pT) (t.map pT)) = false
            rw [eqs_pT, beq_self_eq_true]; rfl
          exact ⟨rfl, ifF rfl ⟨rfl, ifT rfl ⟨n, rwB t n, rfl, rwB_row t n, hn7, cok_pTs _ _, ifF w1 (jn _ ⟨_, rfl⟩)⟩⟩⟩
        · rw [if_neg hc]
          refine ⟨rfl, n, t, _, rfl, .inl rfl, hn7, fun b hbb => ?_⟩
          obtain rfl : b = true := by
            cases b with
            | true => rfl
            | false => exact absurd (hbb.mpr fun z => hc ((prs_iff ht).mpr z)) Bool.false_ne_true
          exact ⟨rfl, ifF rfl ⟨rfl, ifF rfl (jn _ ⟨_, rfl⟩)⟩⟩
      rintro E1 ⟨x9, rfl⟩
      refine ⟨rfl, j * 100 + 2 + n + (evr n).length, d4, n, rfl, P4, by omega, by omega, fun d5 m P5 hM => ⟨s10, ?_⟩⟩
      dsimp only [sNext, put, upB, BD.nth]
      refine seqJoin (fun E' => ∃ (d : D) (m : List Nat) (c14 c15 : Cell), E' = [.val (.scr ns), .own d, .val (.int (0 + (j : Nat))), .val (.int n), .val (rX l), .val (.lst ((prs n l).map pT)), .val (.lst ((evr n).map pT)), c7, .val (.lst (t.map pT)), .val x9, .val (rX m), c11, c12, c13, c14, c15, .un] ∧ Pool (j * 100 + 80) d ∧ Row n m ∧ canSet c14 ∧ canSet c15) ?_ fun jn => ?_
      rotate_left
      · refine ⟨rfl, j * 100 + 2 + n + (evr n).length + n, d5, 2, rfl, P5, by omega, by decide, by decide, fun d6 v P6 v0 v1 => ⟨rfl, iteB (fun z => ?_) fun z => ?_⟩⟩
        · refine ⟨trivial, ⟨by decide, by decide⟩, for_inv (fun i E' => ∃ (d : D) (m : List Nat) (c14 c15 : Cell), E' = [.val (.scr ns), .own d, .val (.int (0 + (j : Nat))), .val (.int n), .val (rX l), .val (.lst ((prs n l).map pT)), .val (.lst ((evr n).map pT)), c7, .val (.lst (t.map pT)), .val x9, .val (rX m), c11, c12, c13, c14, c15, .un] ∧ Pool (j * 100 + 2 + n + (evr n).length + n + 1 + i) d ∧ Row n m ∧ canSet c14 ∧ canSet c15) ⟨d6, l, c14, c15, rfl, P6, hL, s14, s15⟩ (fun i y E' next2 hy2 hE2 hN2 => ?_) fun E' hE2 => ?_⟩
          · obtain ⟨d7, m, c14, c15, rfl, P7, hM2, s14, s15⟩ := hE2
            obtain ⟨hi, rfl⟩ := range_at hy2
            have hi4 : i < 4 := by have : (4 : Int).toNat = 4 := rfl; omega
            refine ⟨s15, rfl, _, d7, (n : Int) - 1, rfl, P7, by omega, by omega, ib_cx (by omega) (by omega), fun d8 u P8 u0 u1 => ⟨s14, ?_⟩⟩
            obtain ⟨a, rfl⟩ : ∃ a : Nat, u = a := ⟨u.toNat, by omega⟩
            have hml := hM2.len
            have e0 : wks (m.map iD) = m.map iD := wks_iD m
            have a1 : atI (wks (m.map iD)) (a : Nat) = some (iD (m.getD a 0)) := by rw [e0]; exact at_iD (by omega)
            have a2 : atI (wks (m.map iD)) ((a : Int) + 1) = some (iD (m.getD (a + 1) 0)) := by rw [e0, show (a : Int) + 1 = ((a + 1 : Nat) : Int) by omega]; exact at_iD (by omega)
            refine ⟨_, a1, _, a2, iteD (fun z => ?_) fun z => ?_⟩
            · have hX : cutL (wks (m.map iD)) none (some (a : Int)) = (m.take a).map iD := by rw [e0, cutL_upto (by rw [List.length_map]; omega), List.map_take]
              have hZ : cutL (wks (m.map iD)) (some ((a : Int) + 2)) none = (m.drop (a + 2)).map iD := by
                rw [e0, show (a : Int) + 2 = ((a + 2 : Nat) : Int) by omega, cutL_from (by rw [List.length_map]; omega), List.map_drop]
              have hsw : (m.take a).map iD ++ [iD (m.getD (a + 1) 0), iD (m.getD a 0)] ++ (m.drop (a + 2)).map iD = (sw m (a + 1)).map iD := by
                have := two_cut (l := m) (i := a) (by omega)
                rw [cutL_upto (by rw [List.length_map]; omega), show (a : Int) + 2 = ((a + 2 : Nat) : Int) by omega, cutL_from (by rw [List.length_map]; omega), ← List.map_take, ← List.map_drop] at this
                exact this
              have lX : ((m.take a).map iD).length = a := by rw [List.length_map, List.length_take]; omega
              have lZ : ((m.drop (a + 2)).map iD).length = n - (a + 2) := by rw [List.length_map, List.length_drop]; omega
              have hfin := hN2 _ ⟨d8, sw m (a + 1), .val (.int (a : Nat)), .val (.int (0 + (i : Nat))), rfl, P8, hM2.sw (by omega) (by omega), trivial, trivial⟩
              unfold rX at hfin
              rw [← hsw] at hfin
              refine ⟨_, a2, _, a1, by show 2 ≤ _; omega, _, _, rfl, rfl, by rw [hX, lX]; show a + 2 ≤ _; omega, ?_⟩
              rw [hX]
              generalize (m.take a).map iD = X at *
              refine ⟨fun h => ?_, fun _ h => (nomatch h), fun h _ => ?_⟩
              · subst h
                refine ⟨_, _, rfl, rfl, by rw [hZ, lZ]; show 2 + _ ≤ _; omega, ?_⟩
                rw [hZ]
                generalize (m.drop (a + 2)).map iD = Z at *
                refine ⟨fun h => (nomatch h), fun _ h => ?_, fun _ _ => ⟨trivial, hfin⟩⟩
                rw [h, List.length_nil] at lZ
                rw [List.length_nil] at lX
                omega
              · refine ⟨_, _, rfl, rfl, by rw [hZ, lZ, List.length_append, lX]; show a + 2 + _ ≤ _; omega, ?_⟩
                rw [hZ]
                generalize (m.drop (a + 2)).map iD = Z at *
                refine ⟨fun h => ?_, fun _ h => ?_, fun _ _ => ⟨trivial, hfin⟩⟩
                · have := congrArg List.length h
                  rw [List.length_append, List.length_nil] at this
                  exact absurd this (by show ¬ (_ + 2 = 0); omega)
                · rw [h, List.append_nil] at hfin
                  exact ⟨trivial, hfin⟩
            · exact hN2 _ ⟨d8, m, .val (.int (a : Nat)), .val (.int (0 + (i : Nat))), rfl, P8, hM2, trivial, trivial⟩
          · obtain ⟨d7, m, c14, c15, rfl, P7, hM2, s14, s15⟩ := hE2
            rw [rangeD_len, show (4 : Int).toNat = 4 from rfl] at P7
            exact jn _ ⟨d7, m, c14, c15, rfl, pool_mono P7 (by omega), hM2, s14, s15⟩
        · exact jn _ ⟨d6, m, c14, c15, rfl, pool_mono P6 (by omega), hM, s14, s15⟩
      rintro E1 ⟨d7, m, c14, c15, rfl, P7, hM, s14, s15⟩
      have hpm := prs_len (l := m) hn7
      refine ⟨n, l, m, rfl, hL, hM, hn7, n, l, m, rfl, hL, hM, hn7, _, _, _, _, rfl, .inl rfl, .inl rfl, rfl, rfl, ifF (by show (!(_ == _)) = false; rw [beq_self_eq_true]; rfl) ?_⟩
      refine ⟨rfl, j * 100 + 80, d7, _, _, rfl, .inl rfl, P7, by omega, (fun z => by
        have h1 : (1, 2) ∈ evr n := mem_evr.mpr ⟨by decide, by decide, by show 2 ≤ n; omega⟩
        rw [List.map_eq_nil_iff.mp z] at h1
        exact nomatch h1), by rw [List.length_map]; omega, fun d8 x P8 hx => ⟨s11, ?_⟩⟩
      obtain ⟨p, hp, rfl⟩ := List.mem_map.mp hx
      dsimp only [sNext, put, upB, BD.nth]
      refine seqJoin (fun E' => E' = [.val (.scr ns), .own d8, .val (.int (0 + (j : Nat))), .val (.int n), .val (rX l), .val (.lst ((prs n l).map pT)), .val (.lst ((evr n).map pT)), c7, .val (.lst (t.map pT)), .val x9, .val (rX m), .val (pT p), .val (.bl (decide (p ∈ prs n l) && !decide (p ∈ prs n m))), c13, c14, c15, .un]) ?_ fun jn => ?_
      rotate_left
      · refine ⟨⟨okd_pT 59 p, okd_pTs 58 _⟩, iteB (fun z => ?_) fun z => ?_⟩
        · have z2 : ((prs n l).map pT).any (fun z => D.eq z (pT p)) = true := z
          rw [any_pT] at z2
          have jj := jn _ rfl
          rw [z2, Bool.true_and, ← any_pT] at jj
          exact ⟨n, m, rfl, hM, hn7, ⟨okd_pT 59 p, okd_pTs 58 _⟩, s12, jj⟩
        · have z2 : ((prs n l).map pT).any (fun z => D.eq z (pT p)) = false := z
          rw [any_pT] at z2
          have jj := jn _ rfl
          rw [z2, Bool.false_and] at jj
          exact ⟨s12, jj⟩
      rintro E1 rfl
      refine seqJoin (fun E' => E' = [.val (.scr ns), .own d8, .val (.int (0 + (j : Nat))), .val (.int n), .val (rX l), .val (.lst ((prs n l).map pT)), .val (.lst ((evr n).map pT)), c7, .val (.lst (t.map pT)), .val x9, .val (rX m), .val (pT p), .val (.bl (decide (p ∈ prs n l) && !decide (p ∈ prs n m))), c13, c14, c15, .un]) ?_ fun jn => ?_
      rotate_left
      · refine ⟨n, l, m, p, rfl, hL, hM, hn7, _, _, _, _, rfl, .inl rfl, .inl rfl, rfl, rfl, ifF (by show (!(_ == _)) = false; rw [beq_self_eq_true]; rfl) (iteB (fun z => ⟨n, l, m, rfl, hL, hM, hn7, ifF ?_ (jn _ rfl)⟩) fun z => jn _ rfl)⟩
        rw [Bool.and_eq_true, decide_eq_true_eq, Bool.not_eq_true', decide_eq_false_iff_not] at z
        rw [List.all_eq_false]
        exact ⟨p, z.1, by simpa using z.2⟩
      rintro E1 rfl
      have eL : wks (l.map iD) = l.map iD := wks_iD l
      have hll := hL.len
      refine ⟨Nat.zero_le _, s13, ⟨by omega, by omega⟩, for_inv (fun i E' => ∃ c14 : Cell, E' = [.val (.scr ns), .own d8, .val (.int (0 + (j : Nat))), .val (.int n), .val (rX l), .val (.lst ((prs n l).map pT)), .val (.lst ((evr n).map pT)), c7, .val (.lst (t.map pT)), .val x9, .val (rX m), .val (pT p), .val (.bl (decide (p ∈ prs n l) && !decide (p ∈ prs n m))), .own (.lst ((jr l i).map rT)), c14, c15, .un] ∧ canSet c14) ⟨c14, rfl, s14⟩ (fun i y E' next2 hy2 hE2 hN2 => ?_) fun E' hE2 => ?_⟩
      · obtain ⟨c14, rfl, s14⟩ := hE2
        obtain ⟨hi, rfl⟩ := range_at hy2
        rw [show (0 : Int) + (i : Nat) = (i : Nat) from Int.zero_add _]
        have hi2 : i + 1 < l.length := by omega
        have a1 : atI (wks (l.map iD)) (i : Nat) = some (iD (l.getD i 0)) := by rw [eL]; exact at_iD (by omega)
        have a2 : atI (wks (l.map iD)) ((i : Int) + 1) = some (iD (l.getD (i + 1) 0)) := by rw [eL, show (i : Int) + 1 = ((i + 1 : Nat) : Int) by omega]; exact at_iD hi2
        have hle := jr_len l i
        refine ⟨s14, _, a1, _, a2, iteD (fun c => ?_) fun c => ?_⟩
        · have z1 : (cutL (wks (l.map iD)) none (some (i : Int))).length ≤ 12 := by rw [eL, cutL_upto (by rw [List.length_map]; omega), List.length_take, List.length_map]; omega
          have z2 : (cutL (wks (l.map iD)) (some ((i : Int) + 2)) none).length ≤ 12 := by rw [eL, show (i : Int) + 2 = ((i + 2 : Nat) : Int) by omega, cutL_from (by rw [List.length_map]; omega), List.length_drop, List.length_map]; omega
          have ee := jr_succ l i
          rw [if_pos (by omega)] at ee
          refine ⟨_, a2, _, a1, by show 2 ≤ _; omega, by show _ + 2 ≤ _; omega, by rw [List.length_append]; show _ + 2 + _ ≤ _; omega, by rw [List.length_map]; omega, hN2 _ ⟨.val (iD i), ?_, trivial⟩⟩
          have e9 : (jr l (i + 1)).map rT = (jr l i).map rT ++ [.tup (cutL (wks (l.map iD)) none (some (i : Int)) ++ [iD (l.getD (i + 1) 0), iD (l.getD i 0)] ++ cutL (wks (l.map iD)) (some ((i : Int) + 2)) none)] := by
            rw [ee, List.map_append, eL, two_cut hi2]
            rfl
          rw [e9]
          rfl
        · have ee := jr_succ l i
          rw [if_neg (by omega), List.append_nil] at ee
          exact hN2 _ ⟨.val (iD i), by rw [ee]; rfl, trivial⟩
      · obtain ⟨c14, rfl, s14⟩ := hE2
        rw [rangeD_len, show ((n : Int) - 1).toNat = n - 1 by omega]
        have hle := jr_len l (n - 1)
        have wl : [Cell.val (BD.wk (rX l))] = [.val (rT l)] := by rw [wk_rX]
        have hsok : SOk ((jr l (n - 1)).map rT) := sok_rTs (by omega) fun q hq => by
          unfold jr at hq
          obtain ⟨i, hi, rfl⟩ := List.mem_map.mp hq
          have hi2 := List.mem_range.mp (List.mem_filter.mp hi).1
          intro z
          have := sw_len (l := l) (p := i + 1) (by omega) (by omega)
          rw [z, List.length_nil] at this
          omega
        have hws : wks (sortD ((jr l (n - 1)).map rT)) = sortD ((jr l (n - 1)).map rT) := by
          rw [wks_map]
          refine (List.map_congr_left fun d hd => ?_).trans (List.map_id _)
          unfold sortD at hd
          obtain ⟨q, _, rfl⟩ := List.mem_map.mp ((List.mergeSort_perm _ _).mem_iff.mp hd)
          exact wk_rT q
        have hos : oks 2 (.lst (wks (sortD ((jr l (n - 1)).map rT)))) = true := by
          rw [hws]
          show (decide ((sortD ((jr l (n - 1)).map rT)).length ≤ sizeLine) && (sortD ((jr l (n - 1)).map rT)).all (oks 1)) = true
          rw [Bool.and_eq_true, decide_eq_true_eq]
          refine ⟨by unfold sortD; rw [List.length_mergeSort, List.length_map]; omega, List.all_eq_true.mpr fun d hd => ?_⟩
          unfold sortD at hd
          obtain ⟨q, hq, rfl⟩ := List.mem_map.mp ((List.mergeSort_perm _ _).mem_iff.mp hd)
          refine oks_rT ?_
          unfold jr at hq
          obtain ⟨i, hi, rfl⟩ := List.mem_map.mp hq
          have hi2 := List.mem_range.mp (List.mem_filter.mp hi).1
          rw [sw_len (by omega) (by omega)]; omega
        have hsame : (!sameD (.lst (wks (sortD ((jr l (n - 1)).map rT)))) (.lst (wks (sortD ((jr l (n - 1)).map rT))))) = false := by rw [sameD_refl 2 _ hos]; rfl
        refine ⟨n, l, wl, hL, by omega, hn7, hsok, _, _, _, _, rfl, .inr rfl, .inr rfl, hos, hos, ifF hsame (hN _ ⟨d8, _, _, _, _, _, _, _, _, _, _, _, _, _, _, rfl, pool_mono P8 (by omega), trivial, trivial, trivial, trivial, trivial, s7, trivial, trivial, trivial, trivial, trivial, trivial, s14, s15⟩)⟩
    · obtain ⟨d, c2, c3, c4, c5, c6, c7, c8, c9, c10, c11, c12, c13, c14, c15, rfl, P0, s2, s3, s4, s5, s6, s7, s8, s9, s10, s11, s12, s13, s14, s15⟩ := hE
      exact fin_ok (post := post) (by walk_at "nb") k⟩
end
end BL
set_option Elab.async false
set_option linter.all false
set_option maxRecDepth 100000
set_option maxHeartbeats 4000000
namespace BL
open PySem PySem.Spec PyProof.Rows L2 BD
/-! ### the top -/
theorem all_mk {l : PySem.W.OpenLaw} {w : World} {K : PySem.W.Frag} {h : Heap} {mg : Str → Option Value} {fa fl : Addr} (X : K.In h) (G : h.Ns mainGlobals mg) (hfa : mg "law" = some (.ref fa)) (bi : Bi mg)
    (D_unlike_of : DefAt K mg "unlike_of" s_unlike_of ["row"])
    (D_row_with : DefAt K mg "row_with" s_row_with ["stage", "told"])
    (D_is_below : DefAt K mg "is_below" s_is_below ["one", "other"])
    (D_just_above : DefAt K mg "just_above" s_just_above ["row"])
    (D_judge_not_below : DefAt K mg "judge_not_below" s_judge_not_below ["one", "other", "pair"])
    (D_l_mixed : DefAt K mg "_law_mixed" s_l_mixed ["number", "place"])
    (D_l_rest : DefAt K mg "_law_rest" s_l_rest ["script", "place", "fills"])
    (D_l_pool : DefAt K mg "_law_pool" s_l_pool ["script"])
    (D_l_next : DefAt K mg "_law_next" s_l_next ["pool"])
    (D_l_draw : DefAt K mg "_law_draw" s_l_draw ["pool", "limit"])
    (D_l_mixed_up : DefAt K mg "_law_mixed_up" s_l_mixed_up ["pool", "items"])
    (D_l_row : DefAt K mg "_law_row" s_l_row ["pool", "stage"])
    (D_l_pairs_of : DefAt K mg "_law_pairs_of" s_l_pairs_of ["row"])
    (D_l_same : DefAt K mg "_law_same" s_l_same ["actual", "due"])
    (D_l_under : DefAt K mg "_law_under" s_l_under ["one", "other"])
    (D_l_pick : DefAt K mg "_law_pick" s_l_pick ["pool", "options"])
    (D_l_breaks : DefAt K mg "_law_breaks" s_l_breaks ["stage", "told"])
    {od an : Option Addr} {sl : Array (Option Value)} {oc kV dc pm cd ct : Value}
    (a2 : PySem.W.nsIn K mainGlobals "law" = some (some (.ref fl))) (l2 : K.lookup fl = some ⟨oc, od, .func (PySem.W.fnOf "law" "law" (defArgs s_law) (defBody s_law) (defScope s_law) .none kV dc pm an cd ct), sl⟩) (c2 : PySem.W.codeIn K cd "law" = true) (k2 : PySem.W.keepIn K (.ref fl) = true) :
    ∃ fd : FuncData, (∀ (s : Shared) (v : Value), BindsTo s fd ⟨[v], []⟩ [("script", v)]) ∧ ∀ base : Heap, K.In base → base.Ns mainGlobals mg → FnOk l.prog w K mg base CX0 6 fa fd ["script"] (spD true K FLaw) := by
  have e := hfa.symm.trans (PySem.W.mg_of X G a2)
  cases e
  have F2 := fun_mk (st := s_law) l2 c2 k2
  refine ⟨PySem.W.fnOf "law" "law" (defArgs s_law) (defBody s_law) (defScope s_law) .none kV dc pm an cd ct, fun s v => .of_eq rfl, fun base _ _ => ?_⟩
  have h_l_mixed : Cal l.prog w K mg base true "_law_mixed" 1 F_mixed := C_l_mixed bi D_l_mixed
  have h_l_rest : Cal l.prog w K mg base true "_law_rest" 2 F_rest := C_l_rest bi h_l_mixed D_l_rest
  have h_l_pool : Cal l.prog w K mg base true "_law_pool" 3 F_pool := C_l_pool bi h_l_rest D_l_pool
  have h_l_next : Cal l.prog w K mg base true "_law_next" 3 F_next := C_l_next bi h_l_rest D_l_next
  have h_l_draw : Cal l.prog w K mg base true "_law_draw" 3 F_draw := C_l_draw bi h_l_rest D_l_draw
  have h_l_pick : Cal l.prog w K mg base true "_law_pick" 4 F_pick := C_l_pick bi h_l_draw D_l_pick
  have z0 : Cal l.prog w K mg base true "_law_same" 1 (fun _ _ => False) := C_l_same0 D_l_same
  have s0 := C_l_sameS bi 0 _ (fun m h => nomatch h) z0 D_l_same
  have s1 := C_l_sameS bi 1 _ (fun m h => by cases h; rfl) s0 D_l_same
  have s2 := C_l_sameS bi 2 _ (fun m h => by cases h; rfl) s1 D_l_same
  have h_unlike_of : Cal l.prog w K mg base true "unlike_of" 1 F_unl := C_unlike_of bi D_unlike_of
  have h_row_with : Cal l.prog w K mg base true "row_with" 2 F_rw := C_row_with bi h_unlike_of D_row_with
  have h_is_below : Cal l.prog w K mg base true "is_below" 2 F_below := C_is_below bi h_unlike_of D_is_below
  have h_judge_not_below : Cal l.prog w K mg base true "judge_not_below" 2 F_judge := C_judge_not_below bi h_unlike_of D_judge_not_below
  have h_just_above : Cal l.prog w K mg base true "just_above" 1 F_just := C_just_above bi D_just_above
  have h_l_mixed_up : Cal l.prog w K mg base true "_law_mixed_up" 4 F_mix := C_l_mixed_up bi h_l_draw D_l_mixed_up
  have h_l_row : Cal l.prog w K mg base true "_law_row" 5 F_row := C_l_row bi h_l_mixed_up D_l_row
  have h_l_pairs_of : Cal l.prog w K mg base true "_law_pairs_of" 1 F_prs := C_l_pairs_of bi D_l_pairs_of
  have h_l_under : Cal l.prog w K mg base true "_law_under" 2 F_und := C_l_under bi h_l_pairs_of D_l_under
  have h_l_breaks : Cal l.prog w K mg base true "_law_breaks" 1 F_brk := C_l_breaks bi D_l_breaks
  exact C_law bi h_l_pool h_l_next h_l_draw h_l_pick s2 h_l_row h_l_pairs_of h_l_under h_l_breaks h_unlike_of h_row_with h_is_below h_just_above h_judge_not_below F2
end BL
open PySem PySem.W PyProof.Rows
set_option maxHeartbeats 0 in
theorem PySem.Challenge.cw_bellring_k78_whole_unlike_pairs_holds : PySem.Challenge.rw_bellring_k78_whole_unlike_pairs.Holds := by
  w_on; o_law; k_head; (case hw => w_witness2)
  k_fill
  refine L2.walk_ofB (l := PySem.Challenge.rw_bellring_k78_whole_unlike_pairs) (n := 63) (k := 6) (x := "script") (CX := fun _ => L2.CX0) (sp := fun w => BD.spD true _ BD.FLaw) rfl (by decide) rfl ⟨rfl, by decide, by decide⟩ (fun w h Y => PySem.W.kIn_of Y) ?F (fun _ _ a ns hl hb _ hS => BD.law_sp hl hb hS) (fun _ _ _ _ _ h => h)
  case F =>
    intro w mg fa h KX G hmg
    refine' BL.all_mk KX G hmg ⟨PySem.W.mg_none_of KX G ?z_len, PySem.W.mg_none_of KX G ?z_int, PySem.W.mg_none_of KX G ?z_range, PySem.W.mg_none_of KX G ?z_enumerate, PySem.W.mg_none_of KX G ?z_all, PySem.W.mg_none_of KX G ?z_any, PySem.W.mg_none_of KX G ?z_sum, PySem.W.mg_none_of KX G ?z_min, PySem.W.mg_none_of KX G ?z_max, PySem.W.mg_none_of KX G ?z_abs, PySem.W.mg_none_of KX G ?z_list, PySem.W.mg_none_of KX G ?z_tuple, PySem.W.mg_none_of KX G ?z_dict, PySem.W.mg_none_of KX G ?z_set, PySem.W.mg_none_of KX G ?z_sorted, PySem.W.mg_none_of KX G ?z_isinstance, PySem.W.mg_none_of KX G ?z_str, PySem.W.mg_none_of KX G ?z_bool, PySem.W.mg_none_of KX G ?z_zip⟩
      (BD.defAt_mk KX G ?a_unlike_of ?l_unlike_of ?c_unlike_of ?k_unlike_of fun _ _ _ _ _ _ us hl => match us, hl with | [_], _ => rfl)
      (BD.defAt_mk KX G ?a_row_with ?l_row_with ?c_row_with ?k_row_with fun _ _ _ _ _ _ us hl => match us, hl with | [_, _], _ => rfl)
      (BD.defAt_mk KX G ?a_is_below ?l_is_below ?c_is_below ?k_is_below fun _ _ _ _ _ _ us hl => match us, hl with | [_, _], _ => rfl)
      (BD.defAt_mk KX G ?a_just_above ?l_just_above ?c_just_above ?k_just_above fun _ _ _ _ _ _ us hl => match us, hl with | [_], _ => rfl)
      (BD.defAt_mk KX G ?a_judge_not_below ?l_judge_not_below ?c_judge_not_below ?k_judge_not_below fun _ _ _ _ _ _ us hl => match us, hl with | [_, _, _], _ => rfl)
      (BD.defAt_mk KX G ?a_l_mixed ?l_l_mixed ?c_l_mixed ?k_l_mixed fun _ _ _ _ _ _ us hl => match us, hl with | [_, _], _ => rfl)
      (BD.defAt_mk KX G ?a_l_rest ?l_l_rest ?c_l_rest ?k_l_rest fun _ _ _ _ _ _ us hl => match us, hl with | [_, _, _], _ => rfl)
      (BD.defAt_mk KX G ?a_l_pool ?l_l_pool ?c_l_pool ?k_l_pool fun _ _ _ _ _ _ us hl => match us, hl with | [_], _ => rfl)
      (BD.defAt_mk KX G ?a_l_next ?l_l_next ?c_l_next ?k_l_next fun _ _ _ _ _ _ us hl => match us, hl with | [_], _ => rfl)
      (BD.defAt_mk KX G ?a_l_draw ?l_l_draw ?c_l_draw ?k_l_draw fun _ _ _ _ _ _ us hl => match us, hl with | [_, _], _ => rfl)
      (BD.defAt_mk KX G ?a_l_mixed_up ?l_l_mixed_up ?c_l_mixed_up ?k_l_mixed_up fun _ _ _ _ _ _ us hl => match us, hl with | [_, _], _ => rfl)
      (BD.defAt_mk KX G ?a_l_row ?l_l_row ?c_l_row ?k_l_row fun _ _ _ _ _ _ us hl => match us, hl with | [_, _], _ => rfl)
      (BD.defAt_mk KX G ?a_l_pairs_of ?l_l_pairs_of ?c_l_pairs_of ?k_l_pairs_of fun _ _ _ _ _ _ us hl => match us, hl with | [_], _ => rfl)
      (BD.defAt_mk KX G ?a_l_same ?l_l_same ?c_l_same ?k_l_same fun _ _ _ _ _ _ us hl => match us, hl with | [_, _], _ => rfl)
      (BD.defAt_mk KX G ?a_l_under ?l_l_under ?c_l_under ?k_l_under fun _ _ _ _ _ _ us hl => match us, hl with | [_, _], _ => rfl)
      (BD.defAt_mk KX G ?a_l_pick ?l_l_pick ?c_l_pick ?k_l_pick fun _ _ _ _ _ _ us hl => match us, hl with | [_, _], _ => rfl)
      (BD.defAt_mk KX G ?a_l_breaks ?l_l_breaks ?c_l_breaks ?k_l_breaks fun _ _ _ _ _ _ us hl => match us, hl with | [_, _], _ => rfl)
      ?a2 ?l2 ?c2 ?k2
    (case z_len => k_is); (case z_int => k_is); (case z_range => k_is); (case z_enumerate => k_is); (case z_all => k_is); (case z_any => k_is)
    (case z_sum => k_is); (case z_min => k_is); (case z_max => k_is); (case z_abs => k_is); (case z_list => k_is); (case z_tuple => k_is)
    (case z_dict => k_is); (case z_set => k_is); (case z_sorted => k_is); (case z_isinstance => k_is); (case z_str => k_is); (case z_bool => k_is)
    (case z_zip => k_is); (case a_unlike_of => k_is); (case l_unlike_of => k_is); (case c_unlike_of => k_is); (case k_unlike_of => k_is); (case a_row_with => k_is)
    (case l_row_with => k_is); (case c_row_with => k_is); (case k_row_with => k_is); (case a_is_below => k_is); (case l_is_below => k_is); (case c_is_below => k_is)
    (case k_is_below => k_is); (case a_just_above => k_is); (case l_just_above => k_is); (case c_just_above => k_is); (case k_just_above => k_is); (case a_judge_not_below => k_is)
    (case l_judge_not_below => k_is); (case c_judge_not_below => k_is); (case k_judge_not_below => k_is); (case a_l_mixed => k_is); (case l_l_mixed => k_is); (case c_l_mixed => k_is)
    (case k_l_mixed => k_is); (case a_l_rest => k_is); (case l_l_rest => k_is); (case c_l_rest => k_is); (case k_l_rest => k_is); (case a_l_pool => k_is)
    (case l_l_pool => k_is); (case c_l_pool => k_is); (case k_l_pool => k_is); (case a_l_next => k_is); (case l_l_next => k_is); (case c_l_next => k_is)
    (case k_l_next => k_is); (case a_l_draw => k_is); (case l_l_draw => k_is); (case c_l_draw => k_is); (case k_l_draw => k_is); (case a_l_mixed_up => k_is)
    (case l_l_mixed_up => k_is); (case c_l_mixed_up => k_is); (case k_l_mixed_up => k_is); (case a_l_row => k_is); (case l_l_row => k_is); (case c_l_row => k_is)
    (case k_l_row => k_is); (case a_l_pairs_of => k_is); (case l_l_pairs_of => k_is); (case c_l_pairs_of => k_is); (case k_l_pairs_of => k_is); (case a_l_same => k_is)
    (case l_l_same => k_is); (case c_l_same => k_is); (case k_l_same => k_is); (case a_l_under => k_is); (case l_l_under => k_is); (case c_l_under => k_is)
    (case k_l_under => k_is); (case a_l_pick => k_is); (case l_l_pick => k_is); (case c_l_pick => k_is); (case k_l_pick => k_is); (case a_l_breaks => k_is)
    (case l_l_breaks => k_is); (case c_l_breaks => k_is); (case k_l_breaks => k_is); (case a2 => k_is); (case l2 => k_is); (case c2 => k_is)
    (case k2 => k_is)
