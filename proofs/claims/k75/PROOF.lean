import PyProof.Rows.All
import Wide.All
import OpenK.AllK
import Wide.FinOn
import HandS.ForMost
import HandS.Gcd
import HandS.Wide
import HandS.Style
import HandS.Flow
import HandS.IsInst
import HandS.TupAny
import HandS.Conv
import HandS.Zip
import KE.DataEq
import HandS.SortInts
import HandS.Deep
import HandS.NoneIn
import HandS.Iter
import HandS.Comp
import HandS.Text
import KE.KIntText
import HandS.Words
import HandS.Ends
import HandS.Codes
import KE.IntTextText
import PyProof.StrLawsTight
import PySem.Challenge.RW_trusswork_k75_lines_of_plans_and_deeds
set_option Elab.async false
set_option linter.all false
set_option maxRecDepth 100000
set_option maxHeartbeats 4000000
namespace G
open PySem PySem.Spec PyProof.Rows L2

abbrev D := PyData
abbrev Sg := L2.St
/-- a cell: frozen data; a list of our own; a list that was locked by a caller; a list of our own that is locked -/
inductive Cell where
  | F (a : D)
  | O (xs : List D)
  | K (xs : List D)
  | M (xs : List D)
abbrev Env := List (Option Cell)
inductive Vw where
  | slot (i : Nat)
  | val (c : Cell)
def Cell.pv : Cell → D
  | .F a => a
  | .O xs => .list xs
  | .K xs => .list xs
  | .M xs => .list xs
/-- its root may be written -/
def Cell.wr : Cell → Bool
  | .O _ => true
  | _ => false
def look (Γ : Env) (i : Nat) : Option Cell := match Γ[i]? with
  | some c => c
  | none => none
def Vw.cell (Γ : Env) : Vw → Option Cell
  | .slot i => look Γ i
  | .val c => some c
def Vw.pv (Γ : Env) (w : Vw) : Option D := match w.cell Γ with
  | some c => some c.pv
  | none => none

abbrev Ad := Addr → Prop
/-- the script as data: a list that is never written and never joined -/
def scr (ns : List Int) : D := .dict [(.none, .tuple (ns.map .int))]
/-- the script's list: frozen, or the module's -/
def ScrL (K : PySem.W.Frag) (H : Hp) (a : Addr) (xs : List V) : Prop := (∃ o, H a = some (.frz o (.lst xs))) ∨
  ∃ (o : Obj) (its : Array Value) (n : Nat), K.lookup a = some o ∧ o.cls = .type "list" ∧ o.dict = none ∧ o.data = .seq its n ∧ its.size ≤ sizeLine ∧ Vals xs its.toList
theorem ScrL.sq {K : PySem.W.Frag} {H : Hp} {a : Addr} {xs : List V} (h : ScrL K H a xs) : SqL K H a xs := h.elim (fun ⟨o, h⟩ => .inl (.inr ⟨o, h⟩)) .inr
mutual
def Rp (K : PySem.W.Frag) (H : Hp) (B : Ad) : D → V → Prop
  | .none, v => v = .non
  | .bool b, v => v = .bl b
  | .int i, v => v = .int i
  | .str x, v => v = .str x
  | .tuple ds, v => ∃ a xs, v = .ref a ∧ SqT K H a xs ∧ Rps K H B ds xs
  | .list ds, v => ∃ a xs, v = .ref a ∧ (B a ∧ H a = some (.lst xs)) ∧ Rps K H B ds xs
  | .dict kvs, v => ∃ (a : Addr) (ns : List Int), kvs = [(.none, .tuple (ns.map .int))] ∧ v = .ref a ∧ ScrL K H a (ns.map V.int)
def Rps (K : PySem.W.Frag) (H : Hp) (B : Ad) : List D → List V → Prop
  | [], vs => vs = []
  | d :: ds, vs => ∃ v r, vs = v :: r ∧ Rp K H B d v ∧ Rps K H B ds r
end
/-- what may not have changed -/
structure Kp (H : Hp) (B : Ad) (H' : Hp) (B' : Ad) : Prop where
  b : ∀ p, B p → B' p
  l : ∀ p xs, B p → H p = some (.lst xs) → H' p = some (.lst xs)
  t : ∀ p xs, H p = some (.tup xs) → H' p = some (.tup xs)
  f : ∀ p o u, H p = some (.frz o u) → H' p = some (.frz o u)
theorem Kp.sqt {K : PySem.W.Frag} {H H' : Hp} {B B' : Ad} (k : Kp H B H' B') {a : Addr} {xs : List V} (h : SqT K H a xs) : SqT K H' a xs := by
  rcases h with (h | ⟨o, h⟩) | h
  · exact .inl (.inl (k.t _ _ h))
  · exact .inl (.inr ⟨o, k.f _ _ _ h⟩)
  · exact .inr h
mutual
theorem Rp.keep {K : PySem.W.Frag} {H H' : Hp} {B B' : Ad} (k : Kp H B H' B') : ∀ (d : D) (v : V), Rp K H B d v → Rp K H' B' d v
  | .none, _, h => h
  | .bool _, _, h => h
  | .int _, _, h => h
  | .str _, _, h => h
  | .tuple ds, _, ⟨a, xs, e, s, r⟩ => ⟨a, xs, e, k.sqt s, Rps.keep k ds xs r⟩
  | .list ds, _, ⟨a, xs, e, ⟨b, l⟩, r⟩ => ⟨a, xs, e, ⟨k.b _ b, k.l _ _ b l⟩, Rps.keep k ds xs r⟩
  | .dict _, _, ⟨a, ns, e, e', h⟩ => ⟨a, ns, e, e', h.imp (fun ⟨o, h⟩ => ⟨o, k.f _ _ _ h⟩) id⟩
theorem Rps.keep {K : PySem.W.Frag} {H H' : Hp} {B B' : Ad} (k : Kp H B H' B') : ∀ (ds : List D) (vs : List V), Rps K H B ds vs → Rps K H' B' ds vs
  | [], _, h => h
  | d :: ds, _, ⟨v, r, e, h1, h2⟩ => ⟨v, r, e, Rp.keep k d v h1, Rps.keep k ds r h2⟩
end
theorem Rps.length {K : PySem.W.Frag} {H : Hp} {B : Ad} : ∀ {ds : List D} {vs : List V}, Rps K H B ds vs → ds.length = vs.length
  | [], _, h => by cases h; rfl
  | _ :: _, _, ⟨_, _, e, _, h⟩ => by subst e; simp [Rps.length h]
theorem Rps.get {K : PySem.W.Frag} {H : Hp} {B : Ad} : ∀ {ds : List D} {vs : List V} {i : Nat} {d : D}, Rps K H B ds vs → ds[i]? = some d → ∃ v, vs[i]? = some v ∧ Rp K H B d v
  | [], _, _, _, _, e => by simp at e
  | d :: ds, _, 0, _, ⟨v, r, e, h1, h2⟩, q => by subst e; simp at q; subst q; exact ⟨v, by simp, h1⟩
  | d :: ds, _, i + 1, _, ⟨v, r, e, h1, h2⟩, q => by
    subst e
    obtain ⟨v', a, b⟩ := Rps.get (i := i) h2 (by simpa using q)
    exact ⟨v', by simpa using a, b⟩
theorem Rps.get' {K : PySem.W.Frag} {H : Hp} {B : Ad} : ∀ {ds : List D} {vs : List V} {i : Nat} {v : V}, Rps K H B ds vs → vs[i]? = some v → ∃ d, ds[i]? = some d ∧ Rp K H B d v := fun {ds vs i v} h e => by
  have hl := h.length
  have hi : i < vs.length := (List.getElem?_eq_some_iff.mp e).1
  obtain ⟨v', a, b⟩ := Rps.get h (List.getElem?_eq_getElem (show i < ds.length by omega))
  rw [e] at a; cases a
  exact ⟨_, List.getElem?_eq_getElem (by omega), b⟩
theorem Rps.append {K : PySem.W.Frag} {H : Hp} {B : Ad} : ∀ {ds es : List D} {vs us : List V}, Rps K H B ds vs → Rps K H B es us → Rps K H B (ds ++ es) (vs ++ us)
  | [], _, _, _, h, k => by cases h; exact k
  | _ :: _, _, _, _, ⟨v, r, e, h1, h2⟩, k => by subst e; exact ⟨v, _, rfl, h1, Rps.append h2 k⟩
theorem Rps.take {K : PySem.W.Frag} {H : Hp} {B : Ad} : ∀ {ds : List D} {vs : List V} (n : Nat), Rps K H B ds vs → Rps K H B (ds.take n) (vs.take n)
  | _, _, 0, _ => by simp [Rps]
  | [], _, _ + 1, h => by cases h; simp [Rps]
  | _ :: _, _, n + 1, ⟨v, r, e, h1, h2⟩ => by subst e; exact ⟨v, _, rfl, h1, Rps.take n h2⟩
theorem Rps.drop {K : PySem.W.Frag} {H : Hp} {B : Ad} : ∀ {ds : List D} {vs : List V} (n : Nat), Rps K H B ds vs → Rps K H B (ds.drop n) (vs.drop n)
  | _, _, 0, h => h
  | [], _, _ + 1, h => by cases h; simp [Rps]
  | _ :: _, _, n + 1, ⟨v, r, e, h1, h2⟩ => by subst e; exact Rps.drop n h2
theorem Rps.set {K : PySem.W.Frag} {H : Hp} {B : Ad} {d : D} {v : V} (q : Rp K H B d v) : ∀ {ds : List D} {vs : List V} (n : Nat), Rps K H B ds vs → Rps K H B (ds.set n d) (vs.set n v)
  | [], _, _, h => by cases h; simp [Rps]
  | _ :: _, _, 0, ⟨v, r, e, h1, h2⟩ => by subst e; exact ⟨_, _, rfl, q, h2⟩
  | _ :: _, _, n + 1, ⟨v, r, e, h1, h2⟩ => by subst e; exact ⟨v, _, rfl, h1, Rps.set q n h2⟩
/-- data without a dict, of such a depth -/
def dle : Nat → D → Bool
  | 0, d => match d with
    | .none | .bool _ | .int _ | .str _ => true
    | _ => false
  | n + 1, d => match d with
    | .none | .bool _ | .int _ | .str _ => true
    | .list xs | .tuple xs => xs.all (dle n)
    | .dict _ => false
theorem dle_all {n : Nat} {d : D} (h : dle n d = true) : d.plain = true ∧ d.depth ≤ n := by
  have all : ∀ (n : Nat), (∀ d : D, dle n d = true → d.plain = true ∧ d.depth ≤ n) → ∀ xs : List D, xs.all (dle n) = true → PyData.plainAll xs = true ∧ PyData.depthAll xs ≤ n := by
    intro n ih xs
    induction xs with
    | nil => intro _; simp [PyData.plainAll, PyData.depthAll]
    | cons x xs ihx =>
      intro h
      rw [List.all_cons, Bool.and_eq_true] at h
      obtain ⟨a, b⟩ := ih x h.1
      obtain ⟨c, e⟩ := ihx h.2
      simp only [PyData.plainAll, PyData.depthAll, a, c, Bool.and_self, true_and]
      omega
  induction n generalizing d with
  | zero => cases d <;> simp_all [PyData.plain, PyData.depth, dle]
  | succ n ih =>
    cases d with
    | none => simp [PyData.plain, PyData.depth]
    | bool b => simp [PyData.plain, PyData.depth]
    | int b => simp [PyData.plain, PyData.depth]
    | str b => simp [PyData.plain, PyData.depth]
    | list xs =>
      obtain ⟨a, b⟩ := all n (fun d h => ih h) xs h
      simp only [PyData.plain, PyData.depth, a, true_and]
      omega
    | tuple xs =>
      obtain ⟨a, b⟩ := all n (fun d h => ih h) xs h
      simp only [PyData.plain, PyData.depth, a, true_and]
      omega
    | dict kvs => simp [dle] at h
mutual
theorem Rp.dp {K : PySem.W.Frag} {H : Hp} {B : Ad} : ∀ (d : D) (v : V), d.plain = true → Rp K H B d v → Dp K H v d
  | .none, _, _, h => by cases h; exact .non
  | .bool b, _, _, h => by cases h; exact .bl b
  | .int i, _, _, h => by cases h; exact .int i
  | .str x, _, _, h => by cases h; exact .str x
  | .tuple ds, _, p, ⟨a, xs, e, s, r⟩ => by subst e; exact .tup s (Rps.dp ds xs p r)
  | .list ds, _, p, ⟨a, xs, e, s, r⟩ => by subst e; exact .lst (.inl (.inl s.2)) (Rps.dp ds xs p r)
  | .dict _, _, p, h => by simp [PyData.plain] at p
theorem Rps.dp {K : PySem.W.Frag} {H : Hp} {B : Ad} : ∀ (ds : List D) (vs : List V), PyData.plainAll ds = true → Rps K H B ds vs → DpAll K H vs ds
  | [], _, _, h => by cases h; exact .nil
  | d :: ds, _, p, ⟨v, r, e, h1, h2⟩ => by
    have p' : d.plain = true ∧ PyData.plainAll ds = true := by simpa [PyData.plainAll] using p
    subst e
    exact .cons (Rp.dp d v p'.1 h1) (Rps.dp ds r p'.2 h2)
end
/-- what may be looked at: kids frozen -/
def Pk (K : PySem.W.Frag) (H : Hp) (B : Ad) (v : V) : D → Prop
  | .list ds => ∃ a xs, v = .ref a ∧ H a = some (.lst xs) ∧ Rps K H B ds xs
  | d => Rp K H B d v
theorem Rp.pk {K : PySem.W.Frag} {H : Hp} {B : Ad} {d : D} {v : V} (h : Rp K H B d v) : Pk K H B v d := by
  cases d with
  | list ds => obtain ⟨a, xs, e, s, r⟩ := h; exact ⟨a, xs, e, s.2, r⟩
  | _ => exact h
theorem Pk.dp {K : PySem.W.Frag} {H : Hp} {B : Ad} {d : D} {v : V} (p : d.plain = true) (h : Pk K H B v d) : Dp K H v d := by
  cases d with
  | list ds => obtain ⟨a, xs, e, s, r⟩ := h; subst e; exact .lst (.inl (.inl s)) (Rps.dp ds xs p r)
  | _ => exact Rp.dp (B := B) _ _ p h

/-- what is fixed while a piece of code runs: the module, what callers have protected, what our own loops have locked -/
structure Fx where
  K : PySem.W.Frag
  P : Ad
  L : Ad
/-- a value holds a cell; R: what it owns -/
def Holds (F : Fx) (H : Hp) (B W : Ad) (v : V) : Cell → List Addr → Prop
  | .F a, R => R = [] ∧ Rp F.K H B a v
  | .O xs, R => ∃ p vs, v = .ref p ∧ R = [p] ∧ H p = some (.lst vs) ∧ Rps F.K H B xs vs
  | .K xs, R => ∃ p vs, v = .ref p ∧ R = [] ∧ F.P p ∧ H p = some (.lst vs) ∧ Rps F.K H B xs vs
  | .M xs, R => ∃ p vs, v = .ref p ∧ R = [p] ∧ F.L p ∧ H p = some (.lst vs) ∧ Rps F.K H B xs vs
theorem Holds.pk {F : Fx} {H : Hp} {B W : Ad} {v : V} {c : Cell} {R : List Addr} (h : Holds F H B W v c R) : Pk F.K H B v c.pv := by
  cases c with
  | F a => exact h.2.pk
  | O xs => obtain ⟨p, vs, e, _, l, r⟩ := h; exact ⟨p, vs, e, l, r⟩
  | K xs => obtain ⟨p, vs, e, _, _, l, r⟩ := h; exact ⟨p, vs, e, l, r⟩
  | M xs => obtain ⟨p, vs, e, _, _, l, r⟩ := h; exact ⟨p, vs, e, l, r⟩

/-- how things go on -/
structure Ev (H : Hp) (B W : Ad) (H' : Hp) (B' W' : Ad) : Prop where
  bsub : ∀ p, B p → B' p
  bnew : ∀ p, B' p → B p ∨ H p = none ∨ W p
  wsub : ∀ p, W' p → W p ∨ H p = none
  stay : ∀ p o, H p = some o → ¬ W p → H' p = some o
theorem Ev.refl (H : Hp) (B W : Ad) : Ev H B W H B W := ⟨fun _ h => h, fun _ h => .inl h, fun _ h => .inl h, fun _ _ h _ => h⟩
theorem Ev.nn {H H1 : Hp} {B W B1 W1 : Ad} (a : Ev H B W H1 B1 W1) {p : Addr} (e : H1 p = none ∨ W1 p) : H p = none ∨ W p := by
  rcases e with e | e
  · by_cases w : W p
    · exact .inr w
    · cases q : H p with
      | none => exact .inl rfl
      | some o => rw [a.stay p o q w] at e; cases e
  · exact (a.wsub p e).symm
theorem Ev.trans {H H1 H2 : Hp} {B W B1 W1 B2 W2 : Ad} (a : Ev H B W H1 B1 W1) (b : Ev H1 B1 W1 H2 B2 W2) : Ev H B W H2 B2 W2 := by
  refine ⟨fun p h => b.bsub p (a.bsub p h), fun p h => ?_, fun p h => ?_, fun p o e w => ?_⟩
  · rcases b.bnew p h with h | h
    · exact a.bnew p h
    · exact .inr (a.nn h)
  · exact (a.nn (b.wsub p h).symm).symm
  · refine b.stay p o (a.stay p o e w) fun z => ?_
    rcases a.wsub p z with z | z
    · exact w z
    · rw [e] at z; cases z
/-- the sets stand well -/
structure Wl (F : Fx) (H : Hp) (B W : Ad) : Prop where
  bw : ∀ p, B p → ¬ W p
  bt : ∀ p, B p → ∃ o, H p = some o
  wt : ∀ p, W p → ∃ o, H p = some o ∧ Mut (some o)
  pw : ∀ p, F.P p → ¬ W p
  pt : ∀ p, F.P p → ∃ o, H p = some o
  lw : ∀ p, F.L p → ¬ W p ∧ ¬ B p ∧ ∃ o, H p = some o
theorem Ev.kp {F : Fx} {H H' : Hp} {B W B' W' : Ad} (e : Ev H B W H' B' W') (w : Wl F H B W) : Kp H B H' B' := by
  have nm : ∀ p o, H p = some o → ¬ Mut (some o) → ¬ W p := fun p o q m z => by
    obtain ⟨o', q', m'⟩ := w.wt p z
    rw [q] at q'; cases q'; exact m m'
  exact ⟨e.bsub, fun p xs b q => e.stay p _ q (w.bw p b), fun p xs q => e.stay p _ q (nm p _ q fun z => z), fun p o u q => e.stay p _ q (nm p _ q fun z => z)⟩
theorem Ev.out {H H' : Hp} {B W B' W' : Ad} (e : Ev H B W H' B' W') {p : Addr} {o : HO} (h : H p = some o) (w : ¬ W p) : ¬ W' p := fun z => by
  rcases e.wsub p z with z | z
  · exact w z
  · rw [h] at z; cases z
theorem Ev.outB {H H' : Hp} {B W B' W' : Ad} (e : Ev H B W H' B' W') {p : Addr} {o : HO} (h : H p = some o) (w : ¬ W p) (b : ¬ B p) : ¬ B' p := fun z => by
  rcases e.bnew p z with z | z | z
  · exact b z
  · rw [h] at z; cases z
  · exact w z
theorem Kp.rd {F : Fx} {H H' : Hp} {B W B' W' : Ad} (e : Ev H B W H' B' W') (w : Wl F H B W) {p : Addr} {xs : List V} (q : F.P p) (l : H p = some (.lst xs)) : H' p = some (.lst xs) := e.stay p _ l (w.pw p q)
section
variable {F : Fx} {H0 H H' : Hp} {B0 W0 B W B' W' : Ad} {σ σ' : Sg} {Γ Γ' : Env} {vw : Vw} {v : V} {c : Cell} {d : D} {R : List Addr}
theorem Holds.mono (h : Holds F H B W v c R) (k : Kp H B H' B')
    (hR : ∀ p ∈ R, ∀ xs, H p = some (.lst xs) → H' p = some (.lst xs)) (hK : ∀ p xs, F.P p → H p = some (.lst xs) → H' p = some (.lst xs)) : Holds F H' B' W' v c R := by
  cases c with
  | F a => exact ⟨h.1, h.2.keep k⟩
  | O xs =>
    obtain ⟨p, vs, e1, e2, l, r⟩ := h
    exact ⟨p, vs, e1, e2, hR p (by simp [e2]) _ l, r.keep k⟩
  | K xs =>
    obtain ⟨p, vs, e1, e2, nw, l, r⟩ := h
    exact ⟨p, vs, e1, e2, nw, hK p _ nw l, r.keep k⟩
  | M xs =>
    obtain ⟨p, vs, e1, e2, nw, l, r⟩ := h
    exact ⟨p, vs, e1, e2, nw, hR p (by simp [e2]) _ l, r.keep k⟩
theorem Holds.there (h : Holds F H B W v c R) : ∀ p ∈ R, ∃ xs, H p = some (.lst xs) := fun p hp => by
  cases c with
  | F a => rw [h.1] at hp; cases hp
  | O xs =>
    obtain ⟨q, vs, e1, e2, l, r⟩ := h
    rw [e2] at hp
    rw [List.mem_singleton.mp hp]
    exact ⟨_, l⟩
  | K xs => obtain ⟨q, vs, e1, e2, _⟩ := h; rw [e2] at hp; cases hp
  | M xs =>
    obtain ⟨q, vs, e1, e2, _, l, r⟩ := h
    rw [e2] at hp
    rw [List.mem_singleton.mp hp]
    exact ⟨_, l⟩
theorem Holds.keep (h : Holds F H B W v c R) (e : Ev H B W H' B' W') (w : Wl F H B W) (o : ∀ p ∈ R, ¬ W p) : Holds F H' B' W' v c R :=
  h.mono (e.kp w) (fun p hp xs q => e.stay p _ q (o p hp)) (fun p xs q l => Kp.rd e w q l)
/-- the state: the slots' cells -/
structure Ste (F : Fx) (H : Hp) (B W : Ad) (σ : Sg) (Γ : Env) : Prop where
  wl : Wl F H B W
  hold : ∃ R : Nat → List Addr, (∀ i c, look Γ i = some c → ∃ v, σ[i]? = some (some v) ∧ Holds F H B W v c (R i) ∧ (R i).Nodup ∧ (∀ p ∈ R i, ¬ B p ∧ ¬ F.P p) ∧ (c.wr = true → ∀ p ∈ R i, W p)) ∧
    ∀ i j p, (look Γ i).isSome → (look Γ j).isSome → p ∈ R i → p ∈ R j → i = j
/-- the value of a view -/
def VOk (F : Fx) (H : Hp) (W : Ad) (H' : Hp) (B' W' : Ad) (σ : Sg) : Vw → V → Prop
  | .slot i, v => σ[i]? = some (some v)
  | .val c, v => ∃ R, Holds F H' B' W' v c R ∧ R.Nodup ∧ ∀ p ∈ R, ¬ B' p ∧ ¬ W' p ∧ ¬ F.P p ∧ ¬ F.L p ∧ (H p = none ∨ W p)
theorem VOk.keep (h : VOk F H0 W0 H B W σ vw v) (w : Wl F H B W) (e : Ev H B W H' B' W') : VOk F H0 W0 H' B' W' σ vw v := by
  cases vw with
  | slot i => exact h
  | val c =>
    obtain ⟨R, h1, h2, h3⟩ := h
    refine ⟨R, h1.keep e w fun p hp => (h3 p hp).2.1, h2, fun p hp => ?_⟩
    obtain ⟨xs, t⟩ := h1.there p hp
    obtain ⟨a, b, c⟩ := h3 p hp
    exact ⟨e.outB t b a, e.out t b, c⟩
theorem VOk.base (h : VOk F H W H' B' W' σ vw v) (e : Ev H0 B0 W0 H B W) : VOk F H0 W0 H' B' W' σ vw v := by
  cases vw with
  | slot i => exact h
  | val c =>
    obtain ⟨R, h1, h2, h3⟩ := h
    exact ⟨R, h1, h2, fun p hp => ⟨(h3 p hp).1, (h3 p hp).2.1, (h3 p hp).2.2.1, (h3 p hp).2.2.2.1, e.nn (h3 p hp).2.2.2.2⟩⟩
theorem Ste.cell (S : Ste F H B W σ Γ) (h : VOk F H0 W0 H B W σ vw v) (e : vw.cell Γ = some c) : ∃ R, Holds F H B W v c R := by
  cases vw with
  | slot i =>
    obtain ⟨R, h1, _⟩ := S.hold
    obtain ⟨v', e', q, _⟩ := h1 i c e
    have h' : σ[i]? = some (some v) := h
    rw [h'] at e'; cases e'
    exact ⟨_, q⟩
  | val c' =>
    have e' : c' = c := Option.some.inj e
    subst e'
    obtain ⟨R, q, _⟩ := h
    exact ⟨R, q⟩
theorem Ste.pv (S : Ste F H B W σ Γ) (h : VOk F H0 W0 H B W σ vw v) (e : vw.pv Γ = some d) : Pk F.K H B v d := by
  unfold Vw.pv at e
  split at e
  · rename_i c hc
    cases e
    obtain ⟨R, q⟩ := S.cell h hc
    exact q.pk
  · cases e
theorem look_set_same {i : Nat} (h : (look Γ i).isSome) {c : Option Cell} : look (Γ.set i c) i = c := by
  unfold look at *
  by_cases hi : i < Γ.length
  · rw [List.getElem?_set_self hi]
  · rw [List.getElem?_eq_none (by omega)] at h; cases h
theorem look_set_ne {i j : Nat} (h : i ≠ j) {c : Option Cell} : look (Γ.set i c) j = look Γ j := by
  unfold look
  rw [List.getElem?_set_ne h]
theorem look_set_lt {i : Nat} (h : i < Γ.length) {c : Option Cell} : look (Γ.set i c) i = c := by
  unfold look
  rw [List.getElem?_set_self h]
theorem look_lt {i : Nat} (h : (look Γ i).isSome) : i < Γ.length := by
  unfold look at h
  by_cases hi : i < Γ.length
  · exact hi
  · rw [List.getElem?_eq_none (by omega)] at h; cases h
theorem look_set_some {i j : Nat} {c : Option Cell} {e : Cell} (h : look (Γ.set i c) j = some e) : (j = i ∧ c = some e) ∨ (j ≠ i ∧ look Γ j = some e) := by
  by_cases hj : j = i
  · subst hj
    have hl := look_lt (Γ := Γ.set j c) (i := j) (by rw [h]; rfl)
    rw [List.length_set] at hl
    rw [look_set_lt hl] at h
    exact .inl ⟨rfl, h⟩
  · rw [look_set_ne (Ne.symm hj)] at h
    exact .inr ⟨hj, h⟩
/-- ONE SLOT CHANGES -/
theorem Ste.put (S : Ste F H B W σ Γ) (i : Nat) (co : Option Cell) (Ri : List Addr) (w' : Wl F H' B' W') (k : Kp H B H' B')
    (hK : ∀ p xs, F.P p → H p = some (.lst xs) → H' p = some (.lst xs))
    (hσ : ∀ j v, j ≠ i → σ[j]? = some (some v) → σ'[j]? = some (some v))
    (hoth : ∀ R : Nat → List Addr, (∀ i c, look Γ i = some c → ∃ v, σ[i]? = some (some v) ∧ Holds F H B W v c (R i) ∧ (R i).Nodup ∧ (∀ p ∈ R i, ¬ B p ∧ ¬ F.P p) ∧ (c.wr = true → ∀ p ∈ R i, W p)) →
      (∀ i j p, (look Γ i).isSome → (look Γ j).isSome → p ∈ R i → p ∈ R j → i = j) →
      ∀ j c q, j ≠ i → look Γ j = some c → q ∈ R j → ¬ B' q ∧ (W q → W' q) ∧ (∀ xs, H q = some (.lst xs) → H' q = some (.lst xs)) ∧ q ∉ Ri)
    (new : ∀ c, co = some c → ∃ v, σ'[i]? = some (some v) ∧ Holds F H' B' W' v c Ri ∧ Ri.Nodup ∧ (∀ p ∈ Ri, ¬ B' p ∧ ¬ F.P p) ∧ (c.wr = true → ∀ p ∈ Ri, W' p)) : Ste F H' B' W' σ' (Γ.set i co) := by
  obtain ⟨R, h1, h2⟩ := S.hold
  have ho := hoth R h1 h2
  refine ⟨w', fun j => if j = i then Ri else R j, fun j c hj => ?_, fun j l p hj hl => ?_⟩
  · show ∃ v, σ'[j]? = some (some v) ∧ Holds F H' B' W' v c (if j = i then Ri else R j) ∧ (if j = i then Ri else R j).Nodup ∧ (∀ p ∈ (if j = i then Ri else R j), ¬ B' p ∧ ¬ F.P p) ∧ (c.wr = true → ∀ p ∈ (if j = i then Ri else R j), W' p)
    rcases look_set_some hj with ⟨e, hc⟩ | ⟨e, hc⟩
    · rw [if_pos e]
      subst e
      exact new c hc
    · rw [if_neg e]
      obtain ⟨v, a1, a2, a3, a4, a5⟩ := h1 j c hc
      have hq := fun q hq => ho j c q e hc hq
      exact ⟨v, hσ j v e a1, a2.mono k (fun p hp => (hq p hp).2.2.1) hK, a3, fun p hp => ⟨(hq p hp).1, (a4 p hp).2⟩, fun hw p hp => (hq p hp).2.1 (a5 hw p hp)⟩
  · show p ∈ (if j = i then Ri else R j) → p ∈ (if l = i then Ri else R l) → j = l
    cases ej : look (Γ.set i co) j with
    | none => rw [ej] at hj; cases hj
    | some c =>
      cases el : look (Γ.set i co) l with
      | none => rw [el] at hl; cases hl
      | some c' =>
        rcases look_set_some ej with ⟨e, hc⟩ | ⟨e, hc⟩ <;> rcases look_set_some el with ⟨e', hc'⟩ | ⟨e', hc'⟩
        · intro _ _; rw [e, e']
        · rw [if_pos e, if_neg e']
          exact fun a b => absurd a (ho l c' p e' hc' b).2.2.2
        · rw [if_neg e, if_pos e']
          exact fun a b => absurd b (ho j c p e hc a).2.2.2
        · rw [if_neg e, if_neg e']
          exact h2 j l p (by rw [hc]; rfl) (by rw [hc']; rfl)
/-- no slot changes -/
theorem Ste.go (S : Ste F H B W σ Γ) (e : Ev H B W H' B' W') (w' : Wl F H' B' W')
    (hW : ∀ p, W p → W' p ∧ ∀ xs, H p = some (.lst xs) → H' p = some (.lst xs)) : Ste F H' B' W' σ Γ := by
  obtain ⟨R, h1, h2⟩ := S.hold
  have k := e.kp S.wl
  refine ⟨w', R, fun i c hi => ?_, h2⟩
  obtain ⟨v, a1, a2, a3, a4, a5⟩ := h1 i c hi
  have tt := a2.there
  refine ⟨v, a1, a2.mono k (fun p hp xs q => ?_) (fun p xs q l => Kp.rd e S.wl q l), a3, fun p hp => ⟨fun z => ?_, (a4 p hp).2⟩, fun hw p hp => (hW p (a5 hw p hp)).1⟩
  · by_cases z : W p
    · exact (hW p z).2 xs q
    · exact e.stay p _ q z
  · obtain ⟨xs, t⟩ := tt p hp
    by_cases w : W p
    · exact w'.bw p z (hW p w).1
    · exact e.outB t w (a4 p hp).1 z
end

/-! ### freezing -/
section
variable {F : Fx} {H0 H H' : Hp} {B0 W0 B W B' W' : Ad} {σ σ' : Sg} {Γ Γ' : Env} {vw : Vw} {v : V} {c : Cell} {d : D} {R : List Addr}
def Vw.take (Γ : Env) : Vw → Option (Cell × Env)
  | .val c => some (c, Γ)
  | .slot i => match look Γ i with
    | some (.F a) => some (.F a, Γ)
    | some (.O xs) => some (.F (.list xs), Γ.set i (some (.F (.list xs))))
    | _ => none
/-- one address is given up: it is frozen -/
theorem Wl.give (w : Wl F H B W) {p : Addr} {xs : List V} (l : H p = some (.lst xs)) (nl : ¬ F.L p) : Wl F H (fun q => B q ∨ q = p) (fun q => W q ∧ q ≠ p) := by
  refine ⟨fun q hq z => ?_, fun q hq => ?_, fun q hq => w.wt q hq.1, fun q hq z => w.pw q hq z.1, w.pt, fun q hq => ⟨fun z => (w.lw q hq).1 z.1, fun z => z.elim (w.lw q hq).2.1 fun z => nl (z ▸ hq), (w.lw q hq).2.2⟩⟩
  · rcases hq with hq | hq
    · exact w.bw q hq z.1
    · exact z.2 hq
  · rcases hq with hq | hq
    · exact w.bt q hq
    · exact ⟨_, hq ▸ l⟩
theorem Kp.give {p : Addr} : Kp H B H (fun q => B q ∨ q = p) := ⟨fun _ h => .inl h, fun _ _ _ h => h, fun _ _ h => h, fun _ _ _ h => h⟩
theorem Ste.take (S : Ste F H B W σ Γ) (E : Ev H0 B0 W0 H B W) (h : VOk F H0 W0 H B W σ vw v) (e : vw.take Γ = some (c, Γ')) :
    ∃ B' W', Ev H0 B0 W0 H B' W' ∧ Ste F H B' W' σ Γ' ∧ VOk F H0 W0 H B' W' σ (.val c) v := by
  cases vw with
  | val c' =>
    cases e
    exact ⟨B, W, E, S, h⟩
  | slot i =>
    have hi : σ[i]? = some (some v) := h
    have hh := S.hold
    obtain ⟨R, h1, h2⟩ := hh
    unfold Vw.take at e
    dsimp only at e
    split at e
    · rename_i a q
      cases e
      obtain ⟨v', e', ho, _⟩ := h1 i _ q
      rw [hi] at e'; cases e'
      exact ⟨B, W, E, S, [], ⟨rfl, ho.2⟩, List.nodup_nil, fun p hp => by cases hp⟩
    · rename_i xs q
      cases e
      obtain ⟨v', e', ho, nd, nb, hw⟩ := h1 i _ q
      rw [hi] at e'; cases e'
      obtain ⟨p, vs, e1, e2, l, r⟩ := ho
      have hp : p ∈ R i := by simp [e2]
      have wp : W p := hw rfl p hp
      have fr : Holds F H (fun q => B q ∨ q = p) (fun q => W q ∧ q ≠ p) v (.F (.list xs)) [] := ⟨rfl, p, vs, e1, ⟨.inr rfl, l⟩, r.keep Kp.give⟩
      refine ⟨fun q => B q ∨ q = p, fun q => W q ∧ q ≠ p, ?_, ?_, [], fr, List.nodup_nil, fun p hp => by cases hp⟩
      · refine ⟨fun q hq => .inl (E.bsub q hq), fun q hq => ?_, fun q hq => E.wsub q hq.1, E.stay⟩
        rcases hq with hq | hq
        · exact E.bnew q hq
        · subst hq
          exact .inr (E.wsub _ wp).symm
      · refine S.put i _ [] (S.wl.give l fun z => (S.wl.lw p z).1 wp) Kp.give (fun _ _ _ z => z) (fun _ _ _ z => z) (fun R' g1 g2 j c q' hji hj hq => ?_) (fun c hc => ?_)
        · obtain ⟨v2, a1, a2, a3, a4, a5⟩ := g1 i _ q
          rw [hi] at a1; cases a1
          obtain ⟨p', vs', e1', e2', _⟩ := a2
          rw [e1] at e1'; cases e1'
          have ne : q' ≠ p := fun z => hji (g2 j i q' (by rw [hj]; rfl) (by rw [q]; rfl) hq (by rw [e2', z]; exact List.mem_singleton.mpr rfl))
          obtain ⟨v3, b1, b2, b3, b4, b5⟩ := g1 j c hj
          refine ⟨fun z => ?_, fun z => ⟨z, ne⟩, fun _ z => z, by simp⟩
          rcases z with z | z
          · exact (b4 q' hq).1 z
          · exact ne z
        · cases hc
          exact ⟨v, hi, fr, List.nodup_nil, fun p hp => (by cases hp), fun z => (by cases z)⟩
    · cases e
/-- .. and as frozen data -/
def Vw.fz (Γ : Env) (vw : Vw) : Option (D × Env) := match vw.take Γ with
  | some (.F a, Γ') => some (a, Γ')
  | some (.O xs, Γ') => some (.list xs, Γ')
  | _ => none
theorem Ste.fz (S : Ste F H B W σ Γ) (E : Ev H0 B0 W0 H B W) (h : VOk F H0 W0 H B W σ vw v) (e : vw.fz Γ = some (d, Γ')) :
    ∃ B' W', Ev H0 B0 W0 H B' W' ∧ Ste F H B' W' σ Γ' ∧ Rp F.K H B' d v := by
  unfold Vw.fz at e
  split at e
  · rename_i a Γ1 q
    cases e
    obtain ⟨B', W', E', S', R, ho, _⟩ := S.take E h q
    exact ⟨B', W', E', S', ho.2⟩
  · rename_i xs Γ1 q
    cases e
    obtain ⟨B', W', E', S', R, ho, nd, hR⟩ := S.take E h q
    obtain ⟨p, vs, e1, e2, l, r⟩ := ho
    have K0 : Kp H B' H (fun q => B' q ∨ q = p) := Kp.give
    -- no slot owns p
    refine ⟨fun q => B' q ∨ q = p, W', ?_, ?_, p, vs, e1, ⟨.inr rfl, l⟩, r.keep K0⟩
    · obtain ⟨nb, nw, np, nl, hf⟩ := hR p (by simp [e2])
      refine ⟨fun q hq => .inl (E'.bsub q hq), fun q hq => ?_, E'.wsub, E'.stay⟩
      rcases hq with hq | hq
      · exact E'.bnew q hq
      · subst hq
        exact .inr hf
    · obtain ⟨nb, nw, np, nl, hf⟩ := hR p (by simp [e2])
      have hp : ∃ o, H p = some o := ⟨_, l⟩
      obtain ⟨R2, g1, g2⟩ := S'.hold
      refine ⟨⟨fun q hq z => ?_, fun q hq => ?_, S'.wl.wt, S'.wl.pw, S'.wl.pt, fun q hq => ⟨(S'.wl.lw q hq).1, fun z => z.elim (S'.wl.lw q hq).2.1 fun z => nl (z ▸ hq), (S'.wl.lw q hq).2.2⟩⟩, R2, fun j c hj => ?_, g2⟩
      · rcases hq with hq | hq
        · exact S'.wl.bw q hq z
        · subst hq; exact nw z
      · rcases hq with hq | hq
        · exact S'.wl.bt q hq
        · exact ⟨_, hq ▸ l⟩
      · obtain ⟨v', a1, a2, a3, a4, a5⟩ := g1 j c hj
        refine ⟨v', a1, a2.mono K0 (fun _ _ _ z => z) (fun _ _ _ z => z), a3, fun q hq => ⟨fun z => z.elim (a4 q hq).1 fun z => ?_, (a4 q hq).2⟩, a5⟩
        subst z
        cases c with
        | F a => rw [a2.1] at hq; cases hq
        | O xs => exact nw (a5 rfl q hq)
        | K xs => obtain ⟨_, _, _, e', _⟩ := a2; rw [e'] at hq; cases hq
        | M xs =>
          obtain ⟨_, _, _, e', hl, _⟩ := a2
          rw [e'] at hq
          rw [List.mem_singleton.mp hq] at nl
          exact nl hl
  · cases e
end

section
variable {F : Fx} {H0 H H' : Hp} {B0 W0 B W B' W' : Ad} {σ σ' : Sg} {Γ Γ' : Env} {vw : Vw} {v : V} {c : Cell} {d : D} {R : List Addr}
theorem Holds.root (h : Holds F H B W v c R) : ∀ p ∈ R, c.wr = true ∨ F.L p := fun p hp => by
  cases c with
  | F a => rw [h.1] at hp; cases hp
  | O xs => exact .inl rfl
  | K xs => obtain ⟨_, _, _, e', _⟩ := h; rw [e'] at hp; cases hp
  | M xs =>
    obtain ⟨_, _, _, e', hl, _⟩ := h
    rw [e'] at hp
    rw [List.mem_singleton.mp hp]
    exact .inr hl
/-- a cell is laid into a slot -/
theorem Ste.lay (S : Ste F H B W σ Γ) (E : Ev H0 B0 W0 H B W) (h : VOk F H0 W0 H B W σ (.val c) v) (i : Nat) (hs : i < σ.length) :
    ∃ W', Ev H0 B0 W0 H B W' ∧ Ste F H B W' (σ.set i (some v)) (Γ.set i (some c)) := by
  obtain ⟨R, h1, h2, h3⟩ := h
  have w : Wl F H B (fun p => W p ∨ p ∈ R) := by
    refine ⟨fun p b z => ?_, S.wl.bt, fun p z => ?_, fun p q z => ?_, S.wl.pt, fun p q => ⟨fun z => ?_, (S.wl.lw p q).2⟩⟩
    · rcases z with z | z
      · exact S.wl.bw p b z
      · exact (h3 p z).1 b
    · rcases z with z | z
      · exact S.wl.wt p z
      · obtain ⟨xs, t⟩ := h1.there p z
        exact ⟨_, t, trivial⟩
    · rcases z with z | z
      · exact S.wl.pw p q z
      · exact (h3 p z).2.2.1 q
    · rcases z with z | z
      · exact (S.wl.lw p q).1 z
      · exact (h3 p z).2.2.2.1 q
  refine ⟨fun p => W p ∨ p ∈ R, ⟨E.bsub, E.bnew, fun p z => ?_, E.stay⟩, ?_⟩
  · rcases z with z | z
    · exact E.wsub p z
    · exact (h3 p z).2.2.2.2.symm
  · have kk : Kp H B H B := ⟨fun _ h => h, fun _ _ _ h => h, fun _ _ h => h, fun _ _ _ h => h⟩
    refine S.put i _ R w kk (fun _ _ _ z => z) (fun j u e q => by rw [List.getElem?_set_ne (Ne.symm e)]; exact q) (fun R' g1 g2 j c' q e hj hq => ?_) (fun c' hc => ?_)
    · obtain ⟨v', a1, a2, a3, a4, a5⟩ := g1 j c' hj
      refine ⟨(a4 q hq).1, fun z => .inl z, fun _ z => z, fun z => ?_⟩
      rcases a2.root q hq with y | y
      · exact (h3 q z).2.1 (a5 y q hq)
      · exact (h3 q z).2.2.2.1 y
    · cases hc
      exact ⟨v, List.getElem?_set_self hs, h1.mono kk (fun _ _ _ z => z) (fun _ _ _ z => z), h2, fun p hp => ⟨(h3 p hp).1, (h3 p hp).2.2.1⟩, fun _ p hp => .inr hp⟩
/-- a slot is emptied -/
theorem Ste.wipe1 (S : Ste F H B W σ Γ) (i : Nat) : Ste F H B W (σ.set i none) (Γ.set i none) :=
  S.put i none [] S.wl ⟨fun _ h => h, fun _ _ _ h => h, fun _ _ h => h, fun _ _ _ h => h⟩ (fun _ _ _ z => z) (fun j u e q => by rw [List.getElem?_set_ne (Ne.symm e)]; exact q)
    (fun R' g1 g2 j c' q e hj hq => ⟨let ⟨_, _, _, _, a4, _⟩ := g1 j c' hj; (a4 q hq).1, fun z => z, fun _ z => z, by simp⟩) fun c hc => by cases hc
theorem Ste.forget (S : Ste F H B W σ Γ) (i : Nat) : Ste F H B W σ (Γ.set i none) :=
  S.put i none [] S.wl ⟨fun _ h => h, fun _ _ _ h => h, fun _ _ h => h, fun _ _ _ h => h⟩ (fun _ _ _ z => z) (fun j u e q => q)
    (fun R' g1 g2 j c' q e hj hq => ⟨let ⟨_, _, _, _, a4, _⟩ := g1 j c' hj; (a4 q hq).1, fun z => z, fun _ z => z, by simp⟩) fun c hc => by cases hc
/-- an own list is written -/
theorem Ste.own {xs : List D} {i : Nat} (S : Ste F H B W σ Γ) (hi : look Γ i = some (.O xs)) (hv : σ[i]? = some (some v)) :
    ∃ p vs, v = .ref p ∧ H p = some (.lst vs) ∧ Rps F.K H B xs vs ∧ ∀ ys ws, Rps F.K H B ys ws → Ev H B W (upd H p (.lst ws)) B W ∧ Ste F (upd H p (.lst ws)) B W σ (Γ.set i (some (.O ys))) := by
  obtain ⟨R, h1, h2⟩ := S.hold
  obtain ⟨v', a1, a2, a3, a4, a5⟩ := h1 i _ hi
  rw [hv] at a1; cases a1
  obtain ⟨p, vs, e1, e2, l, r⟩ := a2
  have hp : p ∈ R i := by simp [e2]
  have wp : W p := a5 rfl p hp
  refine ⟨p, vs, e1, l, r, fun ys ws rw' => ?_⟩
  have ev : Ev H B W (upd H p (.lst ws)) B W := ⟨fun _ z => z, fun _ z => .inl z, fun _ z => .inl z, fun q o e nw => by rw [upd_ne (show q ≠ p from fun z => nw (by rw [z]; exact wp))]; exact e⟩
  have k := ev.kp S.wl
  have w' : Wl F (upd H p (.lst ws)) B W := by
    refine ⟨S.wl.bw, fun q z => ?_, fun q z => ?_, S.wl.pw, fun q z => ?_, fun q z => ⟨(S.wl.lw q z).1, (S.wl.lw q z).2.1, ?_⟩⟩
    · obtain ⟨o, e⟩ := S.wl.bt q z; exact ⟨o, ev.stay q o e (S.wl.bw q z)⟩
    · by_cases e : q = p
      · subst e; exact ⟨_, upd_same, trivial⟩
      · rw [upd_ne e]; exact S.wl.wt q z
    · obtain ⟨o, e⟩ := S.wl.pt q z; exact ⟨o, ev.stay q o e (S.wl.pw q z)⟩
    · obtain ⟨o, e⟩ := (S.wl.lw q z).2.2; exact ⟨o, ev.stay q o e (S.wl.lw q z).1⟩
  refine ⟨ev, S.put i _ [p] w' k (fun q xs' hq l' => Kp.rd ev S.wl hq l') (fun _ _ _ z => z) (fun R' g1 g2 j c' q e hj hq => ?_) (fun c' hc => ?_)⟩
  · obtain ⟨v2, b1, b2, b3, b4, b5⟩ := g1 i _ hi
    rw [hv] at b1; cases b1
    obtain ⟨p', vs', e1', e2', _⟩ := b2
    rw [e1] at e1'; cases e1'
    have ne : q ≠ p := fun z => e (g2 j i q (by rw [hj]; rfl) (by rw [hi]; rfl) hq (by rw [e2', z]; exact List.mem_singleton.mpr rfl))
    obtain ⟨v3, c1, c2, c3, c4, c5⟩ := g1 j c' hj
    exact ⟨(c4 q hq).1, fun z => z, fun xs' z => by rw [upd_ne ne]; exact z, by simpa using ne⟩
  · cases hc
    exact ⟨v, hv, ⟨p, ws, e1, rfl, upd_same, rw'.keep k⟩, by simp, fun q hq => by rw [List.mem_singleton.mp hq]; exact a4 p hp, fun _ q hq => by rw [List.mem_singleton.mp hq]; exact wp⟩
/-- something new -/
theorem Ev.new {p : Addr} {o : HO} (hp : H p = none) : Ev H B W (upd H p o) B W :=
  ⟨fun _ z => z, fun _ z => .inl z, fun _ z => .inl z, fun q u e _ => by rw [upd_ne (ne_of_none e hp)]; exact e⟩
theorem Wl.new (w : Wl F H B W) {p : Addr} {o : HO} (hp : H p = none) : Wl F (upd H p o) B W := by
  have go : ∀ q u, H q = some u → (upd H p o) q = some u := fun q u e => by rw [upd_ne (ne_of_none e hp)]; exact e
  refine ⟨w.bw, fun q z => ?_, fun q z => ?_, w.pw, fun q z => ?_, fun q z => ⟨(w.lw q z).1, (w.lw q z).2.1, ?_⟩⟩
  · obtain ⟨u, e⟩ := w.bt q z; exact ⟨u, go q u e⟩
  · obtain ⟨u, e, m⟩ := w.wt q z; exact ⟨u, go q u e, m⟩
  · obtain ⟨u, e⟩ := w.pt q z; exact ⟨u, go q u e⟩
  · obtain ⟨u, e⟩ := (w.lw q z).2.2; exact ⟨u, go q u e⟩
theorem Ste.new (S : Ste F H B W σ Γ) {p : Addr} {o : HO} (hp : H p = none) : Ste F (upd H p o) B W σ Γ :=
  S.go (Ev.new hp) (S.wl.new hp) fun q z => ⟨z, fun xs e => by rw [upd_ne (ne_of_none e hp)]; exact e⟩
theorem Wl.fresh (w : Wl F H B W) {p : Addr} (hp : H p = none) : ¬ B p ∧ ¬ W p ∧ ¬ F.P p ∧ ¬ F.L p := by
  refine ⟨fun z => ?_, fun z => ?_, fun z => ?_, fun z => ?_⟩
  · obtain ⟨u, e⟩ := w.bt p z; rw [hp] at e; cases e
  · obtain ⟨u, e, _⟩ := w.wt p z; rw [hp] at e; cases e
  · obtain ⟨u, e⟩ := w.pt p z; rw [hp] at e; cases e
  · obtain ⟨u, e⟩ := (w.lw p z).2.2; rw [hp] at e; cases e
/-- what may be wanted of a result that writes nothing old -/
def Res (F : Fx) (H : Hp) (B W : Ad) (c : Cell) (Q : VK) : Prop :=
  ∀ v H', Ev H B W H' B W → Wl F H' B W → (∀ σ Γ, Ste F H B W σ Γ → Ste F H' B W σ Γ) → (∀ σ, VOk F H W H' B W σ (.val c) v) → Q v H'
theorem Res.data {Q : VK} (q : Res F H B W (.F d) Q) (w : Wl F H B W) (r : Rp F.K H B d v) : Q v H :=
  q v H (Ev.refl _ _ _) w (fun _ _ s => s) fun _ => ⟨[], ⟨rfl, r⟩, List.nodup_nil, fun p hp => by cases hp⟩
theorem Res.newL {Q : VK} {xs : List D} (q : Res F H B W (.O xs) Q) (w : Wl F H B W) {vs : List V} (r : Rps F.K H B xs vs) {p : Addr} (hp : H p = none) : Q (.ref p) (upd H p (.lst vs)) :=
  q _ _ (Ev.new hp) (w.new hp) (fun _ _ s => s.new hp) fun _ => ⟨[p], ⟨p, vs, rfl, rfl, upd_same, r.keep ((Ev.new hp).kp w)⟩, by simp, fun x hx => by
    rw [List.mem_singleton.mp hx]
    obtain ⟨a, b, c, d⟩ := w.fresh hp
    exact ⟨a, b, c, d, .inl hp⟩⟩
theorem Res.newT {Q : VK} {ds : List D} (q : Res F H B W (.F (.tuple ds)) Q) (w : Wl F H B W) {vs : List V} (r : Rps F.K H B ds vs) {p : Addr} (hp : H p = none) : Q (.ref p) (upd H p (.tup vs)) :=
  q _ _ (Ev.new hp) (w.new hp) (fun _ _ s => s.new hp) fun _ => ⟨[], ⟨rfl, p, vs, rfl, .inl (.inl upd_same), r.keep ((Ev.new hp).kp w)⟩, List.nodup_nil, fun x hx => by cases hx⟩
end

/-! ### expressions -/
abbrev Sem1 := Env → Option (Vw × Env)
def tS (F : Fx) (f : Sem1) : TE := fun σ H Q => ∃ Γ B W vw Γ', Ste F H B W σ Γ ∧ f Γ = some (vw, Γ') ∧
  ∀ v H' B' W', Ev H B W H' B' W' → Ste F H' B' W' σ Γ' → VOk F H W H' B' W' σ vw v → Q v H'
theorem pimp {X : Cx} {e : Expr} {t t' : TE} (h : PE X e t) (i : ∀ σ H Q, t' σ H Q → t σ H Q) : PE X e t' := ⟨fun pins s σ H Q I q => h.run pins s σ H Q I (i σ H Q q)⟩
/-- an expression means f -/
def SE (X : Cx) (e : Expr) (f : Sem1) : Prop := ∀ F : Fx, F.K = X.K → PE X e (tS F f)
section
variable {X : Cx} {e a b : Expr} {f g : Sem1} {pos : Pos}
def sVar (i : Nat) : Sem1 := fun Γ => match look Γ i with
  | some _ => some (.slot i, Γ)
  | none => none
theorem se_var {i : Nat} (he : PE X e (tVar i)) : SE X e (sVar i) := fun F hF => pimp he fun σ H Q ⟨Γ, B, W, vw, Γ', S, e, q⟩ => by
  unfold sVar at e
  split at e
  · rename_i c hc
    cases e
    obtain ⟨R, h1, _⟩ := S.hold
    obtain ⟨v, hv, _⟩ := h1 i c hc
    exact ⟨v, hv, q v H B W (Ev.refl _ _ _) S hv⟩
  · cases e
def sData (d : D) : Sem1 := fun Γ => some (.val (.F d), Γ)
theorem se_data {v : V} {d : D} (he : PE X e (tC v)) (hr : ∀ H B, Rp X.K H B d v) : SE X e (sData d) := fun F hF => pimp he fun σ H Q ⟨Γ, B, W, vw, Γ', S, e, q⟩ => by
  cases e
  exact q v H B W (Ev.refl _ _ _) S ⟨[], ⟨rfl, hF ▸ hr H B⟩, List.nodup_nil, fun p hp => by cases hp⟩
/-- two operands that are looked at -/
def s2 (op : D → D → Option Cell) (f g : Sem1) : Sem1 := fun Γ => match f Γ with
  | none => none
  | some (va, Γ1) => match g Γ1 with
    | none => none
    | some (vb, Γ2) => match va.pv Γ2, vb.pv Γ2 with
      | some da, some db => (op da db).map fun c => (.val c, Γ2)
      | _, _ => none
/-- what op asks of the values -/
def Rul2 (X : Cx) (op : D → D → Option Cell) (r : R2) : Prop :=
  ∀ (F : Fx) (H : Hp) (B W : Ad) (x y : V) (da db : D) (c : Cell) (Q : VK), F.K = X.K → Wl F H B W → Pk F.K H B x da → Pk F.K H B y db → op da db = some c → Res F H B W c Q → r x y H Q
theorem red_2 {op : D → D → Option Cell} {r : R2} (hr : Rul2 X op r) {F : Fx} (hF : F.K = X.K) {σ : Sg} {H : Hp} {Q : VK} (h : tS F (s2 op f g) σ H Q) : tOp r (tS F f) (tS F g) σ H Q := by
  obtain ⟨Γ, B, W, vw, Γ', S, e, q⟩ := h
  unfold s2 at e
  split at e
  · cases e
  rename_i va Γ1 e1
  split at e
  · cases e
  rename_i vb Γ2 e2
  split at e
  · rename_i da db p1 p2
    cases h : op da db with
    | none => rw [h] at e; cases e
    | some c =>
      rw [h] at e
      cases e
      refine ⟨Γ, B, W, va, Γ1, S, e1, fun x H1 B1 W1 E1 S1 V1 => ⟨_, B1, W1, vb, _, S1, e2, fun y H2 B2 W2 E2 S2 V2 => ?_⟩⟩
      refine hr F H2 B2 W2 x y da db c _ hF S2.wl (S2.pv (V1.keep S1.wl E2) p1) (S2.pv V2 p2) h fun v H' E' w' go V' => ?_
      exact q v H' B2 W2 ((E1.trans E2).trans E') (go _ _ S2) ((V' σ).base (E1.trans E2))
  · cases e
theorem se_2 {op : D → D → Option Cell} {r : R2} (he : ∀ ta tb, PE X a ta → PE X b tb → PE X e (tOp r ta tb)) (ha : SE X a f) (hb : SE X b g) (hr : Rul2 X op r) : SE X e (s2 op f g) :=
  fun F hF => pimp (he _ _ (ha F hF) (hb F hF)) fun σ H Q h => red_2 hr hF h
/-- one operand that is looked at -/
def s1 (op : D → Option Cell) (f : Sem1) : Sem1 := fun Γ => match f Γ with
  | none => none
  | some (va, Γ1) => match va.pv Γ1 with
    | some da => (op da).map fun c => (.val c, Γ1)
    | _ => none
def Rul1 (X : Cx) (op : D → Option Cell) (r : V → Hp → VK → Prop) : Prop :=
  ∀ (F : Fx) (H : Hp) (B W : Ad) (x : V) (da : D) (c : Cell) (Q : VK), F.K = X.K → Wl F H B W → Pk F.K H B x da → op da = some c → Res F H B W c Q → r x H Q
theorem red_1 {op : D → Option Cell} {r : V → Hp → VK → Prop} (hr : Rul1 X op r) {F : Fx} (hF : F.K = X.K) {σ : Sg} {H : Hp} {Q : VK} (h : tS F (s1 op f) σ H Q) : tUn r (tS F f) σ H Q := by
  obtain ⟨Γ, B, W, vw, Γ', S, e, q⟩ := h
  unfold s1 at e
  split at e
  · cases e
  rename_i va Γ1 e1
  split at e
  · rename_i da p1
    cases h : op da with
    | none => rw [h] at e; cases e
    | some c =>
      rw [h] at e
      cases e
      refine ⟨_, B, W, va, _, S, e1, fun x H1 B1 W1 E1 S1 V1 => ?_⟩
      refine hr F H1 B1 W1 x da c _ hF S1.wl (S1.pv V1 p1) h fun v H' E' w' go V' => ?_
      exact q v H' B1 W1 (E1.trans E') (go _ _ S1) ((V' σ).base E1)
  · cases e
theorem se_1 {op : D → Option Cell} {r : V → Hp → VK → Prop} (he : ∀ ta, PE X a ta → PE X e (tUn r ta)) (ha : SE X a f) (hr : Rul1 X op r) : SE X e (s1 op f) :=
  fun F hF => pimp (he _ (ha F hF)) fun σ H Q h => red_1 hr hF h
end
end G

namespace G
open PySem PySem.Spec PyProof.Rows L2

abbrev LIM : Nat := 16777216
theorem lim_eq : sizeLine = LIM := sizeLine_eq

/-! ### operators on data -/
def mulOk (i j : Int) : Bool := decide (i.natAbs < 2 ^ 64) || decide (j.natAbs < 2 ^ 64) || decide (i.natAbs.log2 + j.natAbs.log2 < 1000000)
def divOk (j : Int) : Bool := decide (0 < j) && decide (j.natAbs.log2 < 9000)
def dAdd : D → D → Option Cell
  | .int i, .int j => some (.F (.int (i + j)))
  | .str x, .str y => if x.length + y.length ≤ LIM then some (.F (.str (x ++ y))) else none
  | .list xs, .list ys => if xs.length + ys.length ≤ LIM then some (.O (xs ++ ys)) else none
  | .tuple xs, .tuple ys => if xs.length + ys.length ≤ LIM then some (.F (.tuple (xs ++ ys))) else none
  | _, _ => none
def dSub : D → D → Option Cell
  | .int i, .int j => some (.F (.int (i - j)))
  | _, _ => none
def dMul : D → D → Option Cell
  | .int i, .int j => if mulOk i j then some (.F (.int (i * j))) else none
  | .list xs, .int k => if 0 ≤ k ∧ k < 2 ^ 63 ∧ xs.length * k.toNat ≤ LIM then some (.O (List.replicate k.toNat xs).flatten) else none
  | _, _ => none
def dDiv : D → D → Option Cell
  | .int i, .int j => if divOk j then some (.F (.int (i / j))) else none
  | _, _ => none
def dMod : D → D → Option Cell
  | .int i, .int j => if 0 < j then some (.F (.int (i % j))) else none
  | _, _ => none
def dPow : D → D → Option Cell
  | .int i, .int j => if 0 ≤ j ∧ j ≤ 1000000 ∧ i.natAbs < 2 ^ 64 then some (.F (.int (i ^ j.toNat))) else none
  | _, _ => none
def dNeg : D → Option Cell
  | .int i => some (.F (.int (-i)))
  | _ => none
def dEq (a b : D) : Option Cell := if (dle 9 a && dle 9 b) = true then some (.F (.bool (PyData.eqv a b))) else none
def dNe (a b : D) : Option Cell := if (dle 9 a && dle 9 b) = true then some (.F (.bool (!PyData.eqv a b))) else none
def dCmp (p : Int → Int → Bool) (q : List Nat → List Nat → Bool) : D → D → Option Cell
  | .int i, .int j => some (.F (.bool (p i j)))
  | .str x, .str y => some (.F (.bool (q x.cps.toList y.cps.toList)))
  | _, _ => none
def dLt : D → D → Option Cell := dCmp (fun i j => decide (i < j)) (fun x y => decide (x < y))
def dLe : D → D → Option Cell
  | .int i, .int j => some (.F (.bool (decide (i ≤ j))))
  | _, _ => none
def dGt : D → D → Option Cell
  | .int i, .int j => some (.F (.bool (decide (j < i))))
  | _, _ => none
def dGe : D → D → Option Cell
  | .int i, .int j => some (.F (.bool (decide (j ≤ i))))
  | _, _ => none
def isNone : D → Bool
  | .none => true
  | _ => false
def isBl (b : Bool) : D → Bool
  | .bool c => c == b
  | _ => false
def dIs : D → D → Option Cell
  | a, .none => some (.F (.bool (isNone a)))
  | a, .bool b => some (.F (.bool (isBl b a)))
  | _, _ => none
def dIsNot : D → D → Option Cell
  | a, .none => some (.F (.bool (!isNone a)))
  | a, .bool b => some (.F (.bool (!isBl b a)))
  | _, _ => none
def dIn : D → D → Option Cell
  | a, .list xs => if (dle 9 a && xs.all (dle 9)) = true then some (.F (.bool (xs.any fun y => PyData.eqv y a))) else none
  | a, .tuple xs => if (dle 9 a && xs.all (dle 9)) = true then some (.F (.bool (xs.any fun y => PyData.eqv y a))) else none
  | _, _ => none
def dNotIn : D → D → Option Cell
  | a, .list xs => if (dle 9 a && xs.all (dle 9)) = true then some (.F (.bool (!xs.any fun y => PyData.eqv y a))) else none
  | a, .tuple xs => if (dle 9 a && xs.all (dle 9)) = true then some (.F (.bool (!xs.any fun y => PyData.eqv y a))) else none
  | _, _ => none
/-- an item -/
def dIx : D → D → Option Cell
  | .list xs, .int i => (atI xs i).map .F
  | .tuple xs, .int i => (atI xs i).map .F
  | .str z, .int i => if z.length ≤ LIM then (atI z.cps.toList i).map fun c => .F (.str ⟨#[c]⟩) else none
  | .dict [(.none, .tuple xs)], .int i => (atI xs i).map .F
  | _, _ => none

section
variable {X : Cx}
theorem OpR.or {f : Value → Value → Sem Value} {r r' : R2} (h : OpR X f r) (h' : OpR X f r') : OpR X f (fun x y H Q => r x y H Q ∨ r' x y H Q) := by
  intro pins s σ H x y v u Q I rx ry q
  rcases q with q | q
  · exact h pins s σ H x y v u Q I rx ry q
  · exact h' pins s σ H x y v u Q I rx ry q
theorem mulOk_ok {i j : Int} (h : mulOk i j = true) : IntMulOk i j := by
  unfold mulOk at h
  simp only [Bool.or_eq_true, decide_eq_true_eq] at h
  rcases h with (h | h) | h
  · exact CMul.ok (.inl ⟨by omega, by omega⟩)
  · exact CMul.ok (.inr ⟨by omega, by omega⟩)
  · exact CMulW.ok h
/-- the arithmetic rules, with our conditions -/
theorem op_mulG : OpR X (binaryOp .Mult) (rI (fun i j => mulOk i j = true) fun i j => .int (i * j)) := opI fun _ _ _ _ _ _ _ hc q => mul_int q (mulOk_ok hc)
theorem op_divG : OpR X (binaryOp .FloorDiv) (rI (fun _ j => divOk j = true) fun i j => .int (i / j)) := opI fun i j _ _ _ _ _ hc q => by
  unfold divOk at hc
  simp only [Bool.and_eq_true, decide_eq_true_eq] at hc
  exact floordiv_int (by omega) (by rw [Int.fdiv_eq_ediv_of_nonneg i (by omega)]; exact q) (.inl (PyProof.noPylong_of_log2 hc.2))

theorem pkInt {K : PySem.W.Frag} {H : Hp} {B : Ad} {x : V} {i : Int} (h : Pk K H B x (.int i)) : x = .int i := h
theorem pkStr {K : PySem.W.Frag} {H : Hp} {B : Ad} {x : V} {i : Str} (h : Pk K H B x (.str i)) : x = .str i := h

def rAddG (K : PySem.W.Frag) : R2 := fun x y H Q => (rI0 (fun i j => .int (i + j)) x y H Q ∨ (∃ i j, x = .str i ∧ y = .str j ∧ i.length + j.length ≤ sizeLine ∧ Q (.str (i ++ j)) H)) ∨ (rCat x y H Q ∨ rCatA K x y H Q)
theorem op_addG : OpR X (binaryOp .Add) (rAddG X.K) := OpR.or (OpR.or op_add op_add_str) (OpR.or op_cat op_catA)
theorem rul_add : Rul2 X dAdd (rAddG X.K) := by
  intro F H B W x y da db c Q hF w px py e q
  unfold dAdd at e
  split at e
  · cases e
    exact .inl (.inl ⟨_, _, px, py, q.data w rfl⟩)
  · rename_i a b
    split at e
    · rename_i hl
      cases e
      exact .inl (.inr ⟨_, _, px, py, by rw [lim_eq]; exact hl, q.data w rfl⟩)
    · cases e
  · rename_i xs ys
    split at e
    · rename_i hl
      cases e
      obtain ⟨p, vs, e1, l1, r1⟩ := px
      obtain ⟨p', vs', e2, l2, r2⟩ := py
      exact .inr (.inl ⟨p, p', vs, vs', e1, e2, l1, l2, by rw [← r1.length, ← r2.length, lim_eq]; exact hl, fun p'' hp => q.newL w (r1.append r2) hp⟩)
    · cases e
  · rename_i xs ys
    split at e
    · rename_i hl
      cases e
      obtain ⟨p, vs, e1, l1, r1⟩ := px
      obtain ⟨p', vs', e2, l2, r2⟩ := py
      have z1 := r1.length
      have z2 := r2.length
      rw [hF] at l1 l2
      refine .inr (.inr ⟨p, p', vs, vs', e1, e2, l1, l2, by rw [← z1, ← z2, lim_eq]; exact hl, fun h0 => ?_, fun h0 h1 => ?_, fun h0 h1 p'' hp => q.newT w (r1.append r2) hp⟩)
      · have : xs = [] := List.length_eq_zero_iff.mp (by rw [z1, h0]; rfl)
        subst this
        exact q.data w ⟨p', vs', rfl, hF ▸ l2, r2⟩
      · have : ys = [] := List.length_eq_zero_iff.mp (by rw [z2, h1]; rfl)
        subst this
        rw [List.append_nil] at q
        exact q.data w ⟨p, vs, rfl, hF ▸ l1, r1⟩
    · cases e
  · cases e
theorem rul_sub : Rul2 X dSub (rI0 fun i j => .int (i - j)) := by
  intro F H B W x y da db c Q hF w px py e q
  unfold dSub at e
  split at e
  · cases e; exact ⟨_, _, px, py, q.data w rfl⟩
  · cases e
def rMulG : R2 := fun x y H Q => rI (fun i j => mulOk i j = true) (fun i j => .int (i * j)) x y H Q ∨ rRep x y H Q
theorem op_mulG2 : OpR X (binaryOp .Mult) rMulG := OpR.or op_mulG op_rep
theorem Rps.rep {K : PySem.W.Frag} {H : Hp} {B : Ad} {ds : List D} {vs : List V} (h : Rps K H B ds vs) : ∀ k : Nat, Rps K H B (List.replicate k ds).flatten (List.replicate k vs).flatten
  | 0 => by simp [Rps]
  | k + 1 => by
    rw [List.replicate_succ, List.replicate_succ, List.flatten_cons, List.flatten_cons]
    exact h.append (Rps.rep h k)
theorem rul_mul : Rul2 X dMul rMulG := by
  intro F H B W x y da db c Q hF w px py e q
  unfold dMul at e
  split at e
  · split at e
    · rename_i h
      cases e; exact .inl ⟨_, _, px, py, h, q.data w rfl⟩
    · cases e
  · rename_i xs k
    split at e
    · rename_i h
      cases e
      obtain ⟨p, vs, e1, l1, r1⟩ := px
      exact .inr ⟨p, k, vs, e1, py, l1, by omega, h.2.1, by rw [← r1.length, lim_eq]; exact h.2.2, fun p' hp => q.newL w (r1.rep _) hp⟩
    · cases e
  · cases e
theorem rul_div : Rul2 X dDiv (rI (fun _ j => divOk j = true) fun i j => .int (i / j)) := by
  intro F H B W x y da db c Q hF w px py e q
  unfold dDiv at e
  split at e
  · split at e
    · rename_i h
      cases e; exact ⟨_, _, px, py, h, q.data w rfl⟩
    · cases e
  · cases e
theorem rul_mod : Rul2 X dMod (rI (fun _ j => 0 < j) fun i j => .int (i % j)) := by
  intro F H B W x y da db c Q hF w px py e q
  unfold dMod at e
  split at e
  · split at e
    · rename_i h
      cases e; exact ⟨_, _, px, py, h, q.data w rfl⟩
    · cases e
  · cases e
theorem rul_pow : Rul2 X dPow (rI CPow fun i j => .int (i ^ j.toNat)) := by
  intro F H B W x y da db c Q hF w px py e q
  unfold dPow at e
  split at e
  · split at e
    · rename_i h
      cases e; exact ⟨_, _, px, py, h, q.data w rfl⟩
    · cases e
  · cases e
theorem rul_neg : Rul1 X dNeg (rU fun i => .int (-i)) := by
  intro F H B W x da c Q hF w px e q
  unfold dNeg at e
  split at e
  · cases e; exact ⟨_, px, q.data w rfl⟩
  · cases e
/-- == and != of data -/
def rEqG (K : PySem.W.Frag) : R2 := fun x y H Q => ∃ d e, Dp K H x d ∧ Dp K H y e ∧ dle 9 d = true ∧ dle 9 e = true ∧ Q (.bl (PyData.eqv d e)) H
def rNeG (K : PySem.W.Frag) : R2 := fun x y H Q => ∃ d e, Dp K H x d ∧ Dp K H y e ∧ dle 9 d = true ∧ dle 9 e = true ∧ Q (.bl (!PyData.eqv d e)) H
theorem op_eqG (hu : X.A.units + 64 < cLine) : OpR X (compareOp .Eq) (rEqG X.K) := by
  intro pins s σ H x y v u Q I rx ry h
  obtain ⟨d, e, hd, he, sd, se, q⟩ := h
  obtain ⟨as, r1⟩ := Dp.reads I d x v hd rx
  obtain ⟨bs, r2⟩ := Dp.reads I e y u he ry
  obtain ⟨p1, z1⟩ := dle_all sd
  obtain ⟨p2, z2⟩ := dle_all se
  exact SeqAt.eq_plain r1 r2 p1 p2 (by omega) ⟨.bl _, H, I, rfl, q⟩
theorem op_neG (hu : X.A.units + 64 < cLine) : OpR X (compareOp .NotEq) (rNeG X.K) := by
  intro pins s σ H x y v u Q I rx ry h
  obtain ⟨d, e, hd, he, sd, se, q⟩ := h
  obtain ⟨as, r1⟩ := Dp.reads I d x v hd rx
  obtain ⟨bs, r2⟩ := Dp.reads I e y u he ry
  obtain ⟨p1, z1⟩ := dle_all sd
  obtain ⟨p2, z2⟩ := dle_all se
  exact SeqAt.ne_plain r1 r2 p1 p2 (by omega) ⟨.bl _, H, I, rfl, q⟩
theorem rul_eq : Rul2 X dEq (rEqG X.K) := by
  intro F H B W x y da db c Q hF w px py e q
  unfold dEq at e
  split at e
  · rename_i h
    cases e
    rw [Bool.and_eq_true] at h
    rw [← hF]
    exact ⟨da, db, px.dp (dle_all h.1).1, py.dp (dle_all h.2).1, h.1, h.2, q.data w rfl⟩
  · cases e
theorem rul_ne : Rul2 X dNe (rNeG X.K) := by
  intro F H B W x y da db c Q hF w px py e q
  unfold dNe at e
  split at e
  · rename_i h
    cases e
    rw [Bool.and_eq_true] at h
    rw [← hF]
    exact ⟨da, db, px.dp (dle_all h.1).1, py.dp (dle_all h.2).1, h.1, h.2, q.data w rfl⟩
  · cases e
def rLtG : R2 := fun x y H Q => rI0 (fun i j => .bl (decide (i < j))) x y H Q ∨ (∃ i j, x = .str i ∧ y = .str j ∧ Q (.bl (decide (i.cps.toList < j.cps.toList))) H)
theorem op_ltG : OpR X (compareOp .Lt) rLtG := OpR.or op_lt op_lt_str
theorem rul_lt : Rul2 X dLt rLtG := by
  intro F H B W x y da db c Q hF w px py e q
  unfold dLt dCmp at e
  split at e
  · cases e; exact .inl ⟨_, _, px, py, q.data w rfl⟩
  · cases e; exact .inr ⟨_, _, px, py, q.data w rfl⟩
  · cases e
theorem rul_le : Rul2 X dLe (rI0 fun i j => .bl (decide (i ≤ j))) := by
  intro F H B W x y da db c Q hF w px py e q
  unfold dLe at e
  split at e
  · cases e; exact ⟨_, _, px, py, q.data w rfl⟩
  · cases e
theorem rul_gt : Rul2 X dGt (rI0 fun i j => .bl (decide (j < i))) := by
  intro F H B W x y da db c Q hF w px py e q
  unfold dGt at e
  split at e
  · cases e; exact ⟨_, _, px, py, q.data w rfl⟩
  · cases e
theorem rul_ge : Rul2 X dGe (rI0 fun i j => .bl (decide (j ≤ i))) := by
  intro F H B W x y da db c Q hF w px py e q
  unfold dGe at e
  split at e
  · cases e; exact ⟨_, _, px, py, q.data w rfl⟩
  · cases e
theorem pk_none {K : PySem.W.Frag} {H : Hp} {B : Ad} {x : V} {d : D} (h : Pk K H B x d) : decide (x = .non) = isNone d := by
  cases d with
  | none => cases h; rfl
  | bool b => cases h; rfl
  | int b => cases h; rfl
  | str b => cases h; rfl
  | list xs => obtain ⟨a, vs, e, _⟩ := h; subst e; rfl
  | tuple xs => obtain ⟨a, vs, e, _⟩ := h; subst e; rfl
  | dict xs => obtain ⟨a, vs, _, e, _⟩ := h; subst e; rfl
def rIsY : R2 := fun x y H Q => ∃ b : Bool, y = .bl b ∧ Q (.bl (decide (x = .bl b))) H
def rNotY : R2 := fun x y H Q => ∃ b : Bool, y = .bl b ∧ Q (.bl (!decide (x = .bl b))) H
theorem is_bool {x : V} {v : Value} {b : Bool} (rx : RelV x v) : plainIs v (.bool b) = true ∧ (v == Value.bool b) = decide (x = .bl b) := by
  cases x with
  | non => cases (show v = Value.none from rx); exact ⟨rfl, rfl⟩
  | bl a =>
    cases (show v = Value.bool a from rx)
    refine ⟨rfl, ?_⟩
    by_cases e : a = b
    · subst e; simp
    · have : Value.bool a ≠ Value.bool b := fun z => e (Value.bool.inj z)
      simp [e]
  | int i => obtain ⟨t, rfl⟩ := rx; exact ⟨rfl, rfl⟩
  | str i => obtain ⟨t, rfl⟩ := rx; exact ⟨rfl, rfl⟩
  | byt i => obtain ⟨t, rfl⟩ := rx; exact ⟨rfl, rfl⟩
  | flt i => obtain ⟨t, rfl⟩ := rx; exact ⟨rfl, rfl⟩
  | ref a => cases (show v = Value.ref a from rx); exact ⟨rfl, rfl⟩
  | ty n => cases (show v = Value.type n from rx); exact ⟨rfl, rfl⟩
theorem op_isY : OpR X (compareOp .Is) rIsY := by
  intro pins s σ H x y v u Q I rx ry h
  obtain ⟨b, rfl, q⟩ := h
  cases (show u = Value.bool b from ry)
  obtain ⟨h1, h2⟩ := is_bool (b := b) rx
  exact wpAny_is_plain h1 ⟨.bl _, H, I, by rw [h2]; rfl, q⟩
theorem op_isNotY : OpR X (compareOp .IsNot) rNotY := by
  intro pins s σ H x y v u Q I rx ry h
  obtain ⟨b, rfl, q⟩ := h
  cases (show u = Value.bool b from ry)
  obtain ⟨h1, h2⟩ := is_bool (b := b) rx
  exact wpAny_isNot_plain h1 ⟨.bl _, H, I, by rw [h2]; rfl, q⟩
theorem pk_bool {K : PySem.W.Frag} {H : Hp} {B : Ad} {x : V} {d : D} {b : Bool} (h : Pk K H B x d) : decide (x = .bl b) = isBl b d := by
  cases d with
  | none => cases h; rfl
  | bool c => cases h; cases c <;> cases b <;> rfl
  | int b => cases h; rfl
  | str b => cases h; rfl
  | list xs => obtain ⟨a, vs, e, _⟩ := h; subst e; rfl
  | tuple xs => obtain ⟨a, vs, e, _⟩ := h; subst e; rfl
  | dict xs => obtain ⟨a, vs, _, e, _⟩ := h; subst e; rfl
def rIsG : R2 := fun x y H Q => (y = .non ∧ Q (.bl (decide (x = .non))) H) ∨ rIsY x y H Q
def rIsNotG : R2 := fun x y H Q => (y = .non ∧ Q (.bl (!decide (x = .non))) H) ∨ rNotY x y H Q
theorem op_isG : OpR X (compareOp .Is) rIsG := OpR.or op_isN op_isY
theorem op_isNotG : OpR X (compareOp .IsNot) rIsNotG := OpR.or op_notN op_isNotY
theorem rul_is : Rul2 X dIs rIsG := by
  intro F H B W x y da db c Q hF w px py e q
  unfold dIs at e
  split at e
  · cases e
    refine .inl ⟨py, ?_⟩
    rw [pk_none px]
    exact q.data w rfl
  · cases e
    refine .inr ⟨_, py, ?_⟩
    rw [pk_bool px]
    exact q.data w rfl
  · cases e
theorem rul_isNot : Rul2 X dIsNot rIsNotG := by
  intro F H B W x y da db c Q hF w px py e q
  unfold dIsNot at e
  split at e
  · cases e
    refine .inl ⟨py, ?_⟩
    rw [pk_none px]
    exact q.data w rfl
  · cases e
    refine .inr ⟨_, py, ?_⟩
    rw [pk_bool px]
    exact q.data w rfl
  · cases e
/-- in, not in -/
def rInG (K : PySem.W.Frag) (neg : Bool) : R2 := fun x y H Q => ∃ d ds, Dp K H x d ∧ (Dp K H y (.list ds) ∨ Dp K H y (.tuple ds)) ∧ dle 9 d = true ∧ ds.all (dle 9) = true ∧ Q (.bl (if neg then !ds.any fun z => PyData.eqv z d else ds.any fun z => PyData.eqv z d)) H
theorem op_inG (hu : X.A.units + 64 < cLine) : OpR X (compareOp .In) (rInG X.K false) := by
  intro pins s σ H x y v u Q I rx ry h
  obtain ⟨d, ds, hd, he, sd, se, q⟩ := h
  obtain ⟨as, r1⟩ := Dp.reads I d x v hd rx
  obtain ⟨p1, z1⟩ := dle_all sd
  obtain ⟨p2, z2⟩ := dle_all (n := 10) (d := .list ds) se
  have p2' : PyData.plainAll ds = true := p2
  rcases he with he | he
  · obtain ⟨bs, r2⟩ := Dp.reads I _ y u he ry
    exact SeqAt.in_list_data r2 r1 p2' p1 (by omega) ⟨.bl _, H, I, rfl, q⟩
  · obtain ⟨bs, r2⟩ := Dp.reads I _ y u he ry
    exact SeqAt.in_tuple_data r2 r1 p2' p1 (by omega) ⟨.bl _, H, I, rfl, q⟩
theorem op_notInG (hu : X.A.units + 64 < cLine) : OpR X (compareOp .NotIn) (rInG X.K true) := by
  intro pins s σ H x y v u Q I rx ry h
  obtain ⟨d, ds, hd, he, sd, se, q⟩ := h
  obtain ⟨as, r1⟩ := Dp.reads I d x v hd rx
  obtain ⟨p1, z1⟩ := dle_all sd
  obtain ⟨p2, z2⟩ := dle_all (n := 10) (d := .list ds) se
  have p2' : PyData.plainAll ds = true := p2
  rcases he with he | he
  · obtain ⟨bs, r2⟩ := Dp.reads I _ y u he ry
    exact SeqAt.notIn_list_data r2 r1 p2' p1 (by omega) ⟨.bl _, H, I, rfl, q⟩
  · obtain ⟨bs, r2⟩ := Dp.reads I _ y u he ry
    exact SeqAt.notIn_tuple_data r2 r1 p2' p1 (by omega) ⟨.bl _, H, I, rfl, q⟩
theorem rul_in : Rul2 X dIn (rInG X.K false) := by
  intro F H B W x y da db c Q hF w px py e q
  unfold dIn at e
  rw [← hF]
  split at e
  · rename_i a xs
    split at e
    · rename_i h
      cases e
      rw [Bool.and_eq_true] at h
      exact ⟨_, xs, px.dp (dle_all h.1).1, .inl (py.dp (dle_all (n := 10) (d := .list xs) h.2).1), h.1, h.2, q.data w rfl⟩
    · cases e
  · rename_i a xs
    split at e
    · rename_i h
      cases e
      rw [Bool.and_eq_true] at h
      exact ⟨_, xs, px.dp (dle_all h.1).1, .inr (py.dp (dle_all (n := 10) (d := .tuple xs) h.2).1), h.1, h.2, q.data w rfl⟩
    · cases e
  · cases e
theorem rul_notIn : Rul2 X dNotIn (rInG X.K true) := by
  intro F H B W x y da db c Q hF w px py e q
  unfold dNotIn at e
  rw [← hF]
  split at e
  · rename_i a xs
    split at e
    · rename_i h
      cases e
      rw [Bool.and_eq_true] at h
      exact ⟨_, xs, px.dp (dle_all h.1).1, .inl (py.dp (dle_all (n := 10) (d := .list xs) h.2).1), h.1, h.2, q.data w rfl⟩
    · cases e
  · rename_i a xs
    split at e
    · rename_i h
      cases e
      rw [Bool.and_eq_true] at h
      exact ⟨_, xs, px.dp (dle_all h.1).1, .inr (py.dp (dle_all (n := 10) (d := .tuple xs) h.2).1), h.1, h.2, q.data w rfl⟩
    · cases e
  · cases e
/-- items -/
theorem Rps.atI {K : PySem.W.Frag} {H : Hp} {B : Ad} {ds : List D} {vs : List V} {i : Int} {d : D} (h : Rps K H B ds vs) (e : L2.atI ds i = some d) : ∃ v, L2.atI vs i = some v ∧ Rp K H B d v := by
  unfold L2.atI at *
  rw [← h.length]
  cases q : ixN ds.length i with
  | none => rw [q] at e; cases e
  | some j =>
    rw [q] at e
    exact h.get e
theorem scr_rps {K : PySem.W.Frag} {H : Hp} {B : Ad} : ∀ ns : List Int, Rps K H B (ns.map .int) (ns.map V.int)
  | [] => rfl
  | n :: ns => ⟨_, _, rfl, rfl, scr_rps ns⟩
theorem rul_ix : Rul2 X dIx (rIx X.K) := by
  intro F H B W x y da db c Q hF w px py e q
  rw [← hF]
  unfold dIx at e
  split at e
  · rename_i xs i
    cases h : atI xs i with
    | none => rw [h] at e; cases e
    | some d =>
      rw [h] at e
      cases e
      obtain ⟨p, vs, e1, l1, r1⟩ := px
      obtain ⟨v, hv, rv⟩ := r1.atI h
      exact .inl ⟨p, vs, i, v, e1, py, .inl (.inl l1), hv, q.data w rv⟩
  · rename_i xs i
    cases h : atI xs i with
    | none => rw [h] at e; cases e
    | some d =>
      rw [h] at e
      cases e
      obtain ⟨p, vs, e1, l1, r1⟩ := px
      obtain ⟨v, hv, rv⟩ := r1.atI h
      exact .inr (.inl ⟨p, vs, i, v, e1, py, l1, hv, q.data w rv⟩)
  · rename_i z i
    split at e
    · rename_i hz
      cases h : atI z.cps.toList i with
      | none => rw [h] at e; cases e
      | some d =>
        rw [h] at e
        cases e
        exact .inr (.inr ⟨z, i, d, px, py, by rw [lim_eq]; exact hz, h, q.data w rfl⟩)
    · cases e
  · rename_i xs i
    cases h : atI xs i with
    | none => rw [h] at e; cases e
    | some d =>
      rw [h] at e
      cases e
      obtain ⟨p, ns, e0, e1, l1⟩ := px
      have e0' : xs = ns.map .int := by
        injection e0 with a b
        injection a with c d'
        injection d' with d''
      subst e0'
      obtain ⟨v, hv, rv⟩ := (scr_rps (K := F.K) (H := H) (B := B) ns).atI h
      exact .inl ⟨p, _, i, v, e1, py, l1.sq, hv, q.data w rv⟩
  · cases e
end
end G

namespace G
open PySem PySem.Spec PyProof.Rows L2

/-! ### tests -/
abbrev SemB := Env → Option (Bool × Env)
def tT (F : Fx) (f : SemB) : TT := fun σ H Q => ∃ Γ B W b Γ', Ste F H B W σ Γ ∧ f Γ = some (b, Γ') ∧ ∀ H' B' W', Ev H B W H' B' W' → Ste F H' B' W' σ Γ' → Q b H'
def ST (X : Cx) (e : Expr) (f : SemB) : Prop := ∀ F : Fx, F.K = X.K → PT X e (tT F f)
def SW (X : Cx) (e : Expr) (f : SemB) : Prop := ∀ F : Fx, F.K = X.K → PW X e (tT F f)
theorem timp {X : Cx} {e : Expr} {t t' : TT} (h : PT X e t) (i : ∀ σ H Q, t' σ H Q → t σ H Q) : PT X e t' := ⟨fun pins s σ H Q I q => h.run pins s σ H Q I (i σ H Q q)⟩
theorem wimp {X : Cx} {e : Expr} {t t' : TT} (h : PW X e t) (i : ∀ σ H Q, t' σ H Q → t σ H Q) : PW X e t' := ⟨fun wh pins s σ H Q I q => h.run wh pins s σ H Q I (i σ H Q q)⟩
/-- a comparison as a test -/
def asB (f : Sem1) : SemB := fun Γ => match f Γ with
  | some (.val (.F (.bool b)), Γ') => some (b, Γ')
  | _ => none
section
variable {X : Cx} {e a b : Expr} {f g : Sem1} {fb gb : SemB} {pos : Pos} {F : Fx} {σ : Sg} {H : Hp}
theorem asB_t {Q : Bool → Hp → Prop} (h : tT F (asB f) σ H Q) : tTest (tS F f) σ H Q := by
  obtain ⟨Γ, B, W, b, Γ', S, e, q⟩ := h
  unfold asB at e
  split at e
  · rename_i b' Γ1 e1
    cases e
    exact ⟨Γ, B, W, _, _, S, e1, fun v H' B' W' E S' ⟨R, ⟨_, hv⟩, _⟩ => ⟨_, hv, q H' B' W' E S'⟩⟩
  · cases e
theorem st_cmp {op : D → D → Option Cell} {r : R2} (he : ∀ ta tb, PE X a ta → PE X b tb → PT X e (tTest (tOp r ta tb))) (ha : SE X a f) (hb : SE X b g) (hr : Rul2 X op r) : ST X e (asB (s2 op f g)) :=
  fun F hF => timp (he _ _ (ha F hF) (hb F hF)) fun σ H Q h => red_2 hr hF (asB_t h)
/-- a value's truth -/
def dTru : D → Option Bool
  | .none => some false
  | .bool b => some b
  | .int i => some (i != 0)
  | .str x => if x.length ≤ LIM then some ((x.length : Int) != 0) else none
  | .list xs => some (!xs.isEmpty)
  | .tuple xs => some (!xs.isEmpty)
  | .dict _ => none
theorem Rps.isEmpty {K : PySem.W.Frag} {B : Ad} {ds : List D} {vs : List V} (h : Rps K H B ds vs) : ds.isEmpty = vs.isEmpty := by
  have := h.length
  cases ds <;> cases vs <;> simp_all
theorem tru_pk {K : PySem.W.Frag} {B : Ad} {x : V} {d : D} {b : Bool} (h : Pk K H B x d) (e : dTru d = some b) : TruV K x H b := by
  cases d with
  | none => cases h; cases e; rfl
  | bool b => cases h; cases e; rfl
  | int b => cases h; cases e; rfl
  | str z =>
    cases h
    unfold dTru at e
    dsimp only at e
    split at e
    · rename_i hz
      cases e
      exact ⟨by rw [lim_eq]; exact hz, rfl⟩
    · cases e
  | list xs =>
    obtain ⟨p, vs, e1, l, r⟩ := h
    subst e1
    cases e
    exact .inl ⟨vs, .inl (.inl l), by rw [r.isEmpty]⟩
  | tuple xs =>
    obtain ⟨p, vs, e1, l, r⟩ := h
    subst e1
    cases e
    exact .inr (.inl ⟨vs, l, by rw [r.isEmpty]⟩)
  | dict _ => cases e
def sTru (f : Sem1) : SemB := fun Γ => match f Γ with
  | some (va, Γ') => match va.pv Γ' with
    | some d => (dTru d).map fun b => (b, Γ')
    | none => none
  | none => none
theorem red_tru {Q : Bool → Hp → Prop} (h : tT F (sTru f) σ H Q) : tS F f σ H fun x H' => ∃ k, TruV F.K x H' k ∧ Q k H' := by
  obtain ⟨Γ, B, W, b, Γ', S, e, q⟩ := h
  unfold sTru at e
  split at e
  · rename_i va Γ1 e1
    split at e
    · rename_i d p1
      cases h : dTru d with
      | none => rw [h] at e; cases e
      | some k =>
        rw [h] at e
        cases e
        exact ⟨_, B, W, va, _, S, e1, fun x H1 B1 W1 E1 S1 V1 => ⟨_, tru_pk (S1.pv V1 p1) h, q H1 B1 W1 E1 S1⟩⟩
    · cases e
  · cases e
theorem st_tru (he : ∀ whole, isTrue a X.env whole = (do let v ← whole; standAt a.pos; holding [v] (truthy v))) (ha : SE X a f) : ST X a (sTru f) :=
  fun F hF => timp (pt_truth (ha F hF) he) fun σ H Q h => by rw [← hF]; exact red_tru h
def sNotB (f : SemB) : SemB := fun Γ => match f Γ with
  | some (b, Γ') => some (!b, Γ')
  | none => none
theorem st_not (ha : ST X a fb) : ST X (.UnaryOp .Not a pos) (sNotB fb) := fun F hF => timp (pt_not (ha F hF)) fun σ H Q ⟨Γ, B, W, b, Γ', S, e, q⟩ => by
  unfold sNotB at e
  split at e
  · rename_i b' Γ1 e1
    cases e
    exact ⟨Γ, B, W, _, _, S, e1, q⟩
  · cases e
def sAndB (f g : SemB) : SemB := fun Γ => match f Γ with
  | some (true, Γ') => g Γ'
  | some (false, Γ') => some (false, Γ')
  | none => none
def sOrB (f g : SemB) : SemB := fun Γ => match f Γ with
  | some (true, Γ') => some (true, Γ')
  | some (false, Γ') => g Γ'
  | none => none
theorem red_and {Q : Bool → Hp → Prop} (h : tT F (sAndB fb gb) σ H Q) : tAnd (tT F fb) (tT F gb) σ H Q := by
  obtain ⟨Γ, B, W, b, Γ', S, e, q⟩ := h
  unfold sAndB at e
  split at e
  · rename_i Γ1 e1
    exact ⟨Γ, B, W, _, _, S, e1, fun H1 B1 W1 E1 S1 => by
      refine iteT ?_
      exact ⟨Γ1, B1, W1, b, Γ', S1, e, fun H2 B2 W2 E2 S2 => q H2 B2 W2 (E1.trans E2) S2⟩⟩
  · rename_i Γ1 e1
    cases e
    exact ⟨Γ, B, W, _, _, S, e1, fun H1 B1 W1 E1 S1 => by
      refine iteF ?_
      exact q H1 B1 W1 E1 S1⟩
  · cases e
theorem red_or {Q : Bool → Hp → Prop} (h : tT F (sOrB fb gb) σ H Q) : tOr (tT F fb) (tT F gb) σ H Q := by
  obtain ⟨Γ, B, W, b, Γ', S, e, q⟩ := h
  unfold sOrB at e
  split at e
  · rename_i Γ1 e1
    cases e
    exact ⟨Γ, B, W, _, _, S, e1, fun H1 B1 W1 E1 S1 => by
      refine iteT ?_
      exact q H1 B1 W1 E1 S1⟩
  · rename_i Γ1 e1
    exact ⟨Γ, B, W, _, _, S, e1, fun H1 B1 W1 E1 S1 => by
      refine iteF ?_
      exact ⟨Γ1, B1, W1, b, Γ', S1, e, fun H2 B2 W2 E2 S2 => q H2 B2 W2 (E1.trans E2) S2⟩⟩
  · cases e
theorem sw_and1 (ha : ST X a fb) : SW X (.BoolOp .And [a] pos) fb := fun F hF => pw_and1 (ha F hF)
theorem sw_or1 (ha : ST X a fb) : SW X (.BoolOp .Or [a] pos) fb := fun F hF => pw_or1 (ha F hF)
theorem sw_and {rest : List Expr} (ha : ST X a fb) (hb : SW X (.BoolOp .And (b :: rest) pos) gb) : SW X (.BoolOp .And (a :: b :: rest) pos) (sAndB fb gb) :=
  fun F hF => wimp (pw_and (ha F hF) (hb F hF)) fun _ _ _ h => red_and h
theorem sw_or {rest : List Expr} (ha : ST X a fb) (hb : SW X (.BoolOp .Or (b :: rest) pos) gb) : SW X (.BoolOp .Or (a :: b :: rest) pos) (sOrB fb gb) :=
  fun F hF => wimp (pw_or (ha F hF) (hb F hF)) fun _ _ _ h => red_or h
theorem SW.st (h : SW X e fb) : ST X e fb := fun F hF => (h F hF).pt

/-! ### not, and, or, if as values -/
def sNotV (f : Sem1) : Sem1 := fun Γ => match sTru f Γ with
  | some (b, Γ') => some (.val (.F (.bool (!b))), Γ')
  | none => none
theorem vokD {F : Fx} {H H' : Hp} {W B' W' : Ad} {σ : Sg} {d : D} {v : V} (h : Rp F.K H' B' d v) : VOk F H W H' B' W' σ (.val (.F d)) v := ⟨[], ⟨rfl, h⟩, List.nodup_nil, fun p hp => by cases hp⟩
theorem se_not (ha : SE X a f) : SE X (.UnaryOp .Not a pos) (sNotV f) := fun F hF => pimp (pe_notT (ha F hF)) fun σ H Q ⟨Γ, B, W, vw, Γ', S, e, q⟩ => by
  unfold sNotV at e
  split at e
  · rename_i b Γ1 e1
    cases e
    show tNotT X.K (tS F f) σ H Q
    rw [← hF]
    exact red_tru (Q := fun k H' => Q (.bl (!k)) H') ⟨Γ, B, W, b, _, S, e1, fun H' B' W' E' S' => q _ H' B' W' E' S' (vokD rfl)⟩
  · cases e
def sAndV (f g : Sem1) : Sem1 := fun Γ => match f Γ with
  | some (va, Γ1) => match va.pv Γ1 with
    | some d => match dTru d with
      | some true => g Γ1
      | some false => some (va, Γ1)
      | none => none
    | none => none
  | none => none
def sOrV (f g : Sem1) : Sem1 := fun Γ => match f Γ with
  | some (va, Γ1) => match va.pv Γ1 with
    | some d => match dTru d with
      | some true => some (va, Γ1)
      | some false => g Γ1
      | none => none
    | none => none
  | none => none
theorem se_andV {rest : List Expr} (ha : SE X a f) (hb : SE X (.BoolOp .And (b :: rest) pos) g) : SE X (.BoolOp .And (a :: b :: rest) pos) (sAndV f g) :=
  fun F hF => pimp (pe_andT (ha F hF) (hb F hF)) fun σ H Q ⟨Γ, B, W, vw, Γ', S, e, q⟩ => by
    unfold sAndV at e
    rw [← hF]
    split at e
    · rename_i va Γ1 e1
      split at e
      · rename_i d p1
        split at e
        · rename_i hk
          exact ⟨Γ, B, W, va, Γ1, S, e1, fun x H1 B1 W1 E1 S1 V1 => ⟨true, tru_pk (S1.pv V1 p1) hk, by
            refine iteT ?_
            exact ⟨Γ1, B1, W1, vw, Γ', S1, e, fun v H2 B2 W2 E2 S2 V2 => q v H2 B2 W2 (E1.trans E2) S2 (V2.base E1)⟩⟩⟩
        · rename_i hk
          cases e
          exact ⟨Γ, B, W, _, _, S, e1, fun x H1 B1 W1 E1 S1 V1 => ⟨false, tru_pk (S1.pv V1 p1) hk, by
            refine iteF ?_
            exact q x H1 B1 W1 E1 S1 V1⟩⟩
        · cases e
      · cases e
    · cases e
theorem se_orV {rest : List Expr} (ha : SE X a f) (hb : SE X (.BoolOp .Or (b :: rest) pos) g) : SE X (.BoolOp .Or (a :: b :: rest) pos) (sOrV f g) :=
  fun F hF => pimp (pe_orT (ha F hF) (hb F hF)) fun σ H Q ⟨Γ, B, W, vw, Γ', S, e, q⟩ => by
    unfold sOrV at e
    rw [← hF]
    split at e
    · rename_i va Γ1 e1
      split at e
      · rename_i d p1
        split at e
        · rename_i hk
          cases e
          exact ⟨Γ, B, W, _, _, S, e1, fun x H1 B1 W1 E1 S1 V1 => ⟨true, tru_pk (S1.pv V1 p1) hk, by
            refine iteT ?_
            exact q x H1 B1 W1 E1 S1 V1⟩⟩
        · rename_i hk
          exact ⟨Γ, B, W, va, Γ1, S, e1, fun x H1 B1 W1 E1 S1 V1 => ⟨false, tru_pk (S1.pv V1 p1) hk, by
            refine iteF ?_
            exact ⟨Γ1, B1, W1, vw, Γ', S1, e, fun v H2 B2 W2 E2 S2 V2 => q v H2 B2 W2 (E1.trans E2) S2 (V2.base E1)⟩⟩⟩
        · cases e
      · cases e
    · cases e
theorem se_one {op} (h : SE X a f) : SE X (.BoolOp op [a] pos) f := fun F hF => pe_one (h F hF)
def sIte (c : SemB) (f g : Sem1) : Sem1 := fun Γ => match c Γ with
  | some (true, Γ1) => f Γ1
  | some (false, Γ1) => g Γ1
  | none => none
theorem se_ite {c : Expr} (hc : ST X c fb) (ha : SE X a f) (hb : SE X b g) : SE X (.IfExp c a b pos) (sIte fb f g) :=
  fun F hF => pimp (pe_ifExp (hc F hF) (ha F hF) (hb F hF)) fun σ H Q ⟨Γ, B, W, vw, Γ', S, e, q⟩ => by
    unfold sIte at e
    split at e
    · rename_i Γ1 e1
      exact ⟨Γ, B, W, true, Γ1, S, e1, fun H1 B1 W1 E1 S1 => by
        refine iteT ?_
        exact ⟨Γ1, B1, W1, vw, Γ', S1, e, fun v H2 B2 W2 E2 S2 V2 => q v H2 B2 W2 (E1.trans E2) S2 (V2.base E1)⟩⟩
    · rename_i Γ1 e1
      exact ⟨Γ, B, W, false, Γ1, S, e1, fun H1 B1 W1 E1 S1 => by
        refine iteF ?_
        exact ⟨Γ1, B1, W1, vw, Γ', S1, e, fun v H2 B2 W2 E2 S2 V2 => q v H2 B2 W2 (E1.trans E2) S2 (V2.base E1)⟩⟩
    · cases e
end

/-! ### arguments and displays -/
abbrev SemA := Env → Option (List D × Env)
def tA (F : Fx) (f : SemA) : TA := fun σ H Q => ∃ Γ B W ds Γ', Ste F H B W σ Γ ∧ f Γ = some (ds, Γ') ∧
  ∀ vs H' B' W', Ev H B W H' B' W' → Ste F H' B' W' σ Γ' → Rps F.K H' B' ds vs → Q vs H'
def SA (X : Cx) (es : List Expr) (f : SemA) : Prop := ∀ F : Fx, F.K = X.K → PA X es (tA F f)
theorem aimp {X : Cx} {e : List Expr} {t t' : TA} (h : PA X e t) (i : ∀ σ H Q, t' σ H Q → t σ H Q) : PA X e t' := ⟨fun pos pins s σ H Q I q => h.run pos pins s σ H Q I (i σ H Q q)⟩
/-- evaluated and frozen -/
def sFz (f : Sem1) : Env → Option (D × Env) := fun Γ => match f Γ with
  | some (va, Γ1) => va.fz Γ1
  | none => none
def aNil : SemA := fun Γ => some ([], Γ)
def aCons (f : Sem1) (g : SemA) : SemA := fun Γ => match sFz f Γ with
  | some (d, Γ1) => match g Γ1 with
    | some (ds, Γ2) => some (d :: ds, Γ2)
    | none => none
  | none => none
def notStar : Expr → Bool
  | .Starred _ _ => false
  | _ => true
theorem star_cons {e : Expr} {es : List Expr} {env : PySem.Env} (h : notStar e = true) : starEach (e :: es) env = (false, eval e env) :: starEach es env := by
  cases e <;> first | rfl | (exact nomatch h)
theorem red_fz {F : Fx} {σ : Sg} {H : Hp} {f : Sem1} {Γ Γ' : Env} {B W : Ad} {d : D} {Q : VK} (S : Ste F H B W σ Γ) (e : sFz f Γ = some (d, Γ'))
    (q : ∀ v H' B' W', Ev H B W H' B' W' → Ste F H' B' W' σ Γ' → Rp F.K H' B' d v → Q v H') : tS F f σ H Q := by
  unfold sFz at e
  split at e
  · rename_i va Γ1 e1
    refine ⟨Γ, B, W, va, Γ1, S, e1, fun v H1 B1 W1 E1 S1 V1 => ?_⟩
    obtain ⟨B2, W2, E2, S2, r⟩ := S1.fz E1 V1 e
    exact q v H1 B2 W2 E2 S2 r
  · cases e
section
variable {X : Cx} {e a b : Expr} {es : List Expr} {f g : Sem1} {fs : SemA} {pos : Pos}
theorem sa_nil : SA X [] aNil := fun F hF => aimp pa_nil fun σ H Q ⟨Γ, B, W, ds, Γ', S, e, q⟩ => by
  cases e
  exact q [] H B W (Ev.refl _ _ _) S rfl
theorem sa_cons (ha : SE X e f) (hr : SA X es fs) (hn : notStar e = true) : SA X (e :: es) (aCons f fs) :=
  fun F hF => aimp (pa_cons (ha F hF) (hr F hF) (star_cons hn)) fun σ H Q ⟨Γ, B, W, ds, Γ', S, e, q⟩ => by
    unfold aCons at e
    split at e
    · rename_i d Γ1 e1
      split at e
      · rename_i ds' Γ2 e2
        cases e
        refine red_fz S e1 fun x H1 B1 W1 E1 S1 r1 => ⟨Γ1, B1, W1, ds', _, S1, e2, fun xs H2 B2 W2 E2 S2 r2 => ?_⟩
        exact q _ H2 B2 W2 (E1.trans E2) S2 ⟨x, xs, rfl, r1.keep (E2.kp S1.wl), r2⟩
      · cases e
    · cases e
def sTup (f : SemA) : Sem1 := fun Γ => match f Γ with
  | some (ds, Γ') => if ds.length ≤ LIM then some (.val (.F (.tuple ds)), Γ') else none
  | none => none
def sLst (f : SemA) : Sem1 := fun Γ => match f Γ with
  | some (ds, Γ') => if ds.length ≤ LIM then some (.val (.O ds), Γ') else none
  | none => none
theorem se_tup {k : Nat} (h : SA X es fs) : SE X (.Tuple es k pos) (sTup fs) := fun F hF => pimp (pe_tup (h F hF)) fun σ H Q ⟨Γ, B, W, vw, Γ', S, e, q⟩ => by
  unfold sTup at e
  split at e
  · rename_i ds Γ1 e1
    split at e
    · rename_i hz
      cases e
      refine ⟨Γ, B, W, ds, _, S, e1, fun vs H1 B1 W1 E1 S1 r1 => ⟨by rw [← r1.length, lim_eq]; exact hz, fun p hp => ?_⟩⟩
      refine Res.newT (F := F) (B := B1) (W := W1) (Q := Q) (ds := ds) (fun v H' E' w' go V' => ?_) S1.wl r1 hp
      exact q v H' B1 W1 (E1.trans E') (go _ _ S1) ((V' σ).base E1)
    · cases e
  · cases e
theorem se_lst (h : SA X es fs) : SE X (.List es pos) (sLst fs) := fun F hF => pimp (pe_lst (h F hF)) fun σ H Q ⟨Γ, B, W, vw, Γ', S, e, q⟩ => by
  unfold sLst at e
  split at e
  · rename_i ds Γ1 e1
    split at e
    · rename_i hz
      cases e
      refine ⟨Γ, B, W, ds, _, S, e1, fun vs H1 B1 W1 E1 S1 r1 => ⟨by rw [← r1.length, lim_eq]; exact hz, fun p hp => ?_⟩⟩
      refine Res.newL (F := F) (B := B1) (W := W1) (Q := Q) (xs := ds) (fun v H' E' w' go V' => ?_) S1.wl r1 hp
      exact q v H' B1 W1 (E1.trans E') (go _ _ S1) ((V' σ).base E1)
    · cases e
  · cases e

/-! ### slices -/
abbrev SemO := Env → Option (Option Int × Env)
def tO (F : Fx) (f : SemO) : TO := fun σ H Q => ∃ Γ B W o Γ', Ste F H B W σ Γ ∧ f Γ = some (o, Γ') ∧ ∀ H' B' W', Ev H B W H' B' W' → Ste F H' B' W' σ Γ' → Q o H'
def SO (X : Cx) (e : Option Expr) (f : SemO) : Prop := ∀ F : Fx, F.K = X.K → PO X e (tO F f)
theorem oimp {X : Cx} {e : Option Expr} {t t' : TO} (h : PO X e t) (i : ∀ σ H Q, t' σ H Q → t σ H Q) : PO X e t' := ⟨fun pins s σ H Q I q => h.run pins s σ H Q I (i σ H Q q)⟩
def oNone : SemO := fun Γ => some (none, Γ)
def oSome (f : Sem1) : SemO := fun Γ => match f Γ with
  | some (va, Γ') => match va.pv Γ' with
    | some (.int i) => some (some i, Γ')
    | _ => none
  | none => none
theorem so_none : SO X none oNone := fun F hF => oimp po_none fun σ H Q ⟨Γ, B, W, o, Γ', S, e, q⟩ => by
  cases e
  exact q H B W (Ev.refl _ _ _) S
theorem so_some (ha : SE X a f) : SO X (some a) (oSome f) := fun F hF => oimp (po_some (ha F hF)) fun σ H Q ⟨Γ, B, W, o, Γ', S, e, q⟩ => by
  unfold oSome at e
  split at e
  · rename_i va Γ1 e1
    split at e
    · rename_i i p1
      cases e
      exact ⟨Γ, B, W, va, _, S, e1, fun v H1 B1 W1 E1 S1 V1 => ⟨i, S1.pv V1 p1, q H1 B1 W1 E1 S1⟩⟩
    · cases e
  · cases e
def cutD {α : Type} (xs : List α) (lo hi : Option Int) : List α := (xs.drop (HT.sIx xs.length 0 lo)).take (HT.sIx xs.length xs.length hi - HT.sIx xs.length 0 lo)
def dSl (d : D) (lo hi : Option Int) : Option Cell := match d with
  | .list xs => some (.O (cutD xs lo hi))
  | .tuple xs => some (.F (.tuple (cutD xs lo hi)))
  | .str z => if z.length ≤ LIM then some (.F (.str (cutS z lo hi))) else none
  | _ => none
def sSl (f : Sem1) (lo hi : SemO) : Sem1 := fun Γ => match f Γ with
  | some (va, Γ1) => match lo Γ1 with
    | some (l, Γ2) => match hi Γ2 with
      | some (h, Γ3) => match va.pv Γ3 with
        | some d => (dSl d l h).map fun c => (.val c, Γ3)
        | none => none
      | none => none
    | none => none
  | none => none
def rSlG (K : PySem.W.Frag) : V → Option Int → Option Int → Hp → VK → Prop := fun x lo hi H Q => rSlL K x lo hi H Q ∨ (rSlA K x lo hi H Q ∨ rSlS x lo hi H Q)
theorem sl_G : SlR X (rSlG X.K) := SlR.or sl_list (SlR.or sl_tupA sl_str)
theorem Rps.cut {K : PySem.W.Frag} {H : Hp} {B : Ad} {ds : List D} {vs : List V} (h : Rps K H B ds vs) (lo hi : Option Int) : Rps K H B (cutD ds lo hi) (cutV vs lo hi) := by
  unfold cutD cutV
  rw [h.length]
  exact (h.drop _).take _
theorem cutD_whole {α : Type} {xs : List α} {lo hi : Option Int} (h1 : HT.sIx xs.length 0 lo = 0) (h2 : HT.sIx xs.length xs.length hi = xs.length) : cutD xs lo hi = xs := by
  unfold cutD
  rw [h1, h2]
  simp
theorem se_sl {lo hi : Option Expr} {fl fh : SemO} {p2 : Pos} (ha : SE X a f) (hl : SO X lo fl) (hh : SO X hi fh) : SE X (.Subscript a (.Slice lo hi none p2) pos) (sSl f fl fh) :=
  fun F hF => pimp (pe_slice sl_G (ha F hF) (hl F hF) (hh F hF)) fun σ H Q ⟨Γ, B, W, vw, Γ', S, e, q⟩ => by
    unfold sSl at e
    split at e
    · rename_i va Γ1 e1
      split at e
      · rename_i l Γ2 e2
        split at e
        · rename_i h Γ3 e3
          split at e
          · rename_i d p1
            cases hd : dSl d l h with
            | none => rw [hd] at e; cases e
            | some c =>
              rw [hd] at e
              cases e
              refine ⟨Γ, B, W, va, Γ1, S, e1, fun x H1 B1 W1 E1 S1 V1 => ⟨Γ1, B1, W1, l, Γ2, S1, e2, fun H2 B2 W2 E2 S2 => ⟨Γ2, B2, W2, h, _, S2, e3, fun H3 B3 W3 E3 S3 => ?_⟩⟩⟩
              have px := S3.pv ((V1.keep S1.wl E2).keep S2.wl E3) p1
              have q' : Res F H3 B3 W3 c Q := fun v H' E' w' go V' => q v H' B3 W3 (((E1.trans E2).trans E3).trans E') (go _ _ S3) ((V' σ).base ((E1.trans E2).trans E3))
              rw [← hF]
              unfold dSl at hd
              split at hd
              · rename_i xs
                cases hd
                obtain ⟨p, vs, e1, l1, r1⟩ := px
                exact .inl ⟨p, vs, e1, .inl (.inl l1), fun p' hp => q'.newL S3.wl (r1.cut l h) hp⟩
              · rename_i xs
                cases hd
                obtain ⟨p, vs, e1, l1, r1⟩ := px
                refine .inr (.inl ⟨p, vs, e1, l1, fun hw => ?_, fun hw p' hp => q'.newT S3.wl (r1.cut l h) hp⟩)
                rw [← r1.length] at hw
                rw [cutD_whole hw.1 hw.2] at q'
                exact q'.data S3.wl ⟨p, vs, rfl, l1, r1⟩
              · rename_i z
                split at hd
                · rename_i hz
                  cases hd
                  exact .inr (.inr ⟨z, px, by rw [lim_eq]; exact hz, q'.data S3.wl rfl⟩)
                · cases hd
              · cases hd
          · cases e
        · cases e
      · cases e
    · cases e
end
end G

namespace G
open PySem PySem.Spec PyProof.Rows L2

/-! ### built-in functions on data -/
def ints? : List D → Option (List Int)
  | [] => some []
  | .int i :: r => (ints? r).map (i :: ·)
  | _ => none
def bools? : List D → Option (List Bool)
  | [] => some []
  | .bool i :: r => (bools? r).map (i :: ·)
  | _ => none
theorem ints_map : ∀ ns : List Int, ints? (ns.map PyData.int) = some ns
  | [] => rfl
  | n :: ns => by show (ints? (ns.map PyData.int)).map _ = _; rw [ints_map ns]; rfl
theorem bools_map : ∀ ns : List Bool, bools? (ns.map PyData.bool) = some ns
  | [] => rfl
  | n :: ns => by show (bools? (ns.map PyData.bool)).map _ = _; rw [bools_map ns]; rfl
theorem ints_of : ∀ {ds : List D} {ns : List Int}, ints? ds = some ns → ds = ns.map PyData.int
  | [], ns, h => by cases h; rfl
  | d :: ds, ns, h => by
    cases d with
    | int i =>
      have h' : (ints? ds).map (i :: ·) = some ns := h
      cases q : ints? ds with
      | none => rw [q] at h'; cases h'
      | some r => rw [q] at h'; cases h'; rw [ints_of q]; rfl
    | _ => cases h
theorem bools_of : ∀ {ds : List D} {ns : List Bool}, bools? ds = some ns → ds = ns.map PyData.bool
  | [], ns, h => by cases h; rfl
  | d :: ds, ns, h => by
    cases d with
    | bool i =>
      have h' : (bools? ds).map (i :: ·) = some ns := h
      cases q : bools? ds with
      | none => rw [q] at h'; cases h'
      | some r => rw [q] at h'; cases h'; rw [bools_of q]; rfl
    | _ => cases h
theorem rps_ints {K : PySem.W.Frag} {H : Hp} {B : Ad} : ∀ {ns : List Int} {vs : List V}, Rps K H B (ns.map PyData.int) vs → vs = ns.map V.int
  | [], _, h => h
  | n :: ns, _, ⟨v, r, e, h1, h2⟩ => by subst e; rw [show v = V.int n from h1, rps_ints h2]; rfl
theorem rps_bools {K : PySem.W.Frag} {H : Hp} {B : Ad} : ∀ {ns : List Bool} {vs : List V}, Rps K H B (ns.map PyData.bool) vs → vs = ns.map V.bl
  | [], _, h => h
  | n :: ns, _, ⟨v, r, e, h1, h2⟩ => by subst e; rw [show v = V.bl n from h1, rps_bools h2]; rfl
def dLen : D → Option Cell
  | .list xs => some (.F (.int xs.length))
  | .tuple xs => some (.F (.int xs.length))
  | .str x => if x.length ≤ LIM then some (.F (.int x.length)) else none
  | .dict [(.none, .tuple xs)] => some (.F (.int xs.length))
  | _ => none
def dInt : D → Option Cell
  | .int i => some (.F (.int i))
  | .bool b => some (.F (.int (if b then 1 else 0)))
  | _ => none
def dAbs : D → Option Cell
  | .int i => some (.F (.int (if i < 0 then -i else i)))
  | _ => none
def dStr : D → Option Cell
  | .int i => if i.natAbs.log2 < 1920 then some (.F (.str (toString i))) else none
  | _ => none
def dList : D → Option Cell
  | .list xs => some (.O xs)
  | .tuple xs => some (.O xs)
  | _ => none
def dTuple : D → Option Cell
  | .list xs => some (.F (.tuple xs))
  | .tuple xs => some (.F (.tuple xs))
  | _ => none
def dSum : D → Option Cell
  | .list xs => (ints? xs).map fun ns => .F (.int ns.sum)
  | _ => none
def dAll : D → Option Cell
  | .list xs => (bools? xs).map fun ns => .F (.bool (ns.all id))
  | _ => none
def dAny : D → Option Cell
  | .list xs => (bools? xs).map fun ns => .F (.bool (ns.any id))
  | _ => none
/-- the greatest, the least of a list -/
def maxL : List Int → Int
  | [] => 0
  | [x] => x
  | x :: y :: r => max x (maxL (y :: r))
def minL : List Int → Int
  | [] => 0
  | [x] => x
  | x :: y :: r => min x (minL (y :: r))
theorem maxL_spec : ∀ {xs : List Int}, xs ≠ [] → maxL xs ∈ xs ∧ ∀ y ∈ xs, y ≤ maxL xs
  | [], h => absurd rfl h
  | [x], _ => ⟨by simp [maxL], fun y hy => by simp [maxL] at *; omega⟩
  | x :: y :: r, _ => by
    obtain ⟨h1, h2⟩ := maxL_spec (xs := y :: r) (by simp)
    show max x (maxL (y :: r)) ∈ _ ∧ ∀ z ∈ _, z ≤ max x (maxL (y :: r))
    refine ⟨?_, fun z hz => ?_⟩
    · by_cases q : x ≤ maxL (y :: r)
      · rw [Int.max_eq_right q]; exact List.mem_cons_of_mem _ h1
      · rw [Int.max_eq_left (by omega)]; exact List.mem_cons_self
    · rcases List.mem_cons.mp hz with rfl | hz
      · exact Int.le_max_left ..
      · exact Int.le_trans (h2 z hz) (Int.le_max_right ..)
theorem minL_spec : ∀ {xs : List Int}, xs ≠ [] → minL xs ∈ xs ∧ ∀ y ∈ xs, minL xs ≤ y
  | [], h => absurd rfl h
  | [x], _ => ⟨by simp [minL], fun y hy => by simp [minL] at *; omega⟩
  | x :: y :: r, _ => by
    obtain ⟨h1, h2⟩ := minL_spec (xs := y :: r) (by simp)
    show min x (minL (y :: r)) ∈ _ ∧ ∀ z ∈ _, min x (minL (y :: r)) ≤ z
    refine ⟨?_, fun z hz => ?_⟩
    · by_cases q : x ≤ minL (y :: r)
      · rw [Int.min_eq_left q]; exact List.mem_cons_self
      · rw [Int.min_eq_right (by omega)]; exact List.mem_cons_of_mem _ h1
    · rcases List.mem_cons.mp hz with rfl | hz
      · exact Int.min_le_left ..
      · exact Int.le_trans (Int.min_le_right ..) (h2 z hz)
def dMax : D → Option Cell
  | .list xs => match ints? xs with
    | some [] => none
    | some ns => some (.F (.int (maxL ns)))
    | none => none
  | _ => none
def dMin : D → Option Cell
  | .list xs => match ints? xs with
    | some [] => none
    | some ns => some (.F (.int (minL ns)))
    | none => none
  | _ => none
def dMax2 : D → D → Option Cell
  | .int i, .int j => some (.F (.int (if j > i then j else i)))
  | _, _ => none
def dMin2 : D → D → Option Cell
  | .int i, .int j => some (.F (.int (if j < i then j else i)))
  | _, _ => none
def dGcd : D → D → Option Cell
  | .int i, .int j => some (.F (.int ((Nat.gcd i.natAbs j.natAbs : Nat) : Int)))
  | _, _ => none
/-- the type's name -/
def tyOf : D → Option String
  | .none => some "NoneType"
  | .bool _ => some "bool"
  | .int _ => some "int"
  | .str _ => some "str"
  | .list _ => some "list"
  | .tuple _ => some "tuple"
  | .dict _ => none
def isTy (t c : String) : Bool := t == c || (t == "bool" && c == "int")
def dIsi (c : String) (d : D) : Option Cell := (tyOf d).map fun t => .F (.bool (isTy t c))

section
variable {X : Cx}
theorem rul_len : Rul1 X dLen (fun x H Q => ∃ y n, [x] = [y] ∧ LenV X.K y H n ∧ Q (.int n) H) := by
  intro F H B W x da c Q hF w px e q
  rw [← hF]
  unfold dLen at e
  split at e
  · cases e
    obtain ⟨p, vs, e1, l, r⟩ := px
    subst e1
    exact ⟨_, _, rfl, .inl ⟨vs, .inl (.inl l), rfl⟩, by rw [← r.length]; exact q.data w rfl⟩
  · cases e
    obtain ⟨p, vs, e1, l, r⟩ := px
    subst e1
    exact ⟨_, _, rfl, .inr ⟨vs, l, rfl⟩, by rw [← r.length]; exact q.data w rfl⟩
  · split at e
    · rename_i z hz
      cases e
      cases (show x = .str z from px)
      exact ⟨_, _, rfl, ⟨by rw [lim_eq]; exact hz, rfl⟩, q.data w rfl⟩
    · cases e
  · rename_i xs
    cases e
    obtain ⟨p, ns, e0, e1, l1⟩ := px
    have e0' : xs = ns.map .int := by
      injection e0 with a b
      injection a with c d'
      injection d' with d''
    subst e0'
    subst e1
    exact ⟨_, _, rfl, .inl ⟨_, l1.sq, rfl⟩, by rw [List.length_map]; rw [List.length_map] at q; exact q.data w rfl⟩
  · cases e
theorem rul_int : Rul1 X dInt (fun x H Q => (∃ i, [x] = [.int i] ∧ Q (.int i) H) ∨ ∃ k, [x] = [.bl k] ∧ Q (.int (if k then 1 else 0)) H) := by
  intro F H B W x da c Q hF w px e q
  unfold dInt at e
  split at e
  · cases e; exact .inl ⟨_, by rw [show x = _ from px], q.data w rfl⟩
  · cases e; exact .inr ⟨_, by rw [show x = _ from px], q.data w rfl⟩
  · cases e
theorem rul_abs : Rul1 X dAbs (fun x H Q => ∃ i, [x] = [.int i] ∧ Q (.int (if i < 0 then -i else i)) H) := by
  intro F H B W x da c Q hF w px e q
  unfold dAbs at e
  split at e
  · cases e; exact ⟨_, by rw [show x = _ from px], q.data w rfl⟩
  · cases e
theorem rul_str : Rul1 X dStr (fun x H Q => ∃ i, [x] = [.int i] ∧ i.natAbs.log2 < 1920 ∧ Q (.str (toString i)) H) := by
  intro F H B W x da c Q hF w px e q
  unfold dStr at e
  split at e
  · split at e
    · rename_i h
      cases e; exact ⟨_, by rw [show x = _ from px], h, q.data w rfl⟩
    · cases e
  · cases e
theorem rul_list : Rul1 X dList (fun x H Q => ∃ p ys, [x] = [.ref p] ∧ (SqL X.K H p ys ∨ SqT X.K H p ys) ∧ ∀ l, H l = none → Q (.ref l) (upd H l (.lst ys))) := by
  intro F H B W x da c Q hF w px e q
  rw [← hF]
  unfold dList at e
  split at e
  · cases e
    obtain ⟨p, vs, e1, l, r⟩ := px
    exact ⟨p, vs, by rw [e1], .inl (.inl (.inl l)), fun p' hp => q.newL w r hp⟩
  · cases e
    obtain ⟨p, vs, e1, l, r⟩ := px
    exact ⟨p, vs, by rw [e1], .inr l, fun p' hp => q.newL w r hp⟩
  · cases e
theorem rul_tuple : Rul1 X dTuple (fun x H Q => ∃ p ys, [x] = [.ref p] ∧ ((SqL X.K H p ys ∧ ∀ l, H l = none → Q (.ref l) (upd H l (.tup ys))) ∨ (SqT X.K H p ys ∧ Q (.ref p) H))) := by
  intro F H B W x da c Q hF w px e q
  rw [← hF]
  unfold dTuple at e
  split at e
  · cases e
    obtain ⟨p, vs, e1, l, r⟩ := px
    exact ⟨p, vs, by rw [e1], .inl ⟨.inl (.inl l), fun p' hp => q.newT w r hp⟩⟩
  · cases e
    obtain ⟨p, vs, e1, l, r⟩ := px
    exact ⟨p, vs, by rw [e1], .inr ⟨l, q.data w ⟨p, vs, rfl, l, r⟩⟩⟩
  · cases e
theorem rul_sum : Rul1 X dSum (fun x H Q => rSum X.K [x] H Q) := by
  intro F H B W x da c Q hF w px e q
  rw [← hF]
  unfold dSum at e
  split at e
  · rename_i xs
    cases h : ints? xs with
    | none => rw [h] at e; cases e
    | some ns =>
      rw [h] at e
      cases e
      obtain ⟨p, vs, e1, l, r⟩ := px
      rw [ints_of h] at r
      rw [rps_ints r] at l
      exact ⟨p, ns, by rw [e1], .inl (.inl l), q.data w rfl⟩
  · cases e
theorem rul_all : Rul1 X dAll (fun x H Q => rAll X.K [x] H Q) := by
  intro F H B W x da c Q hF w px e q
  rw [← hF]
  unfold dAll at e
  split at e
  · rename_i xs
    cases h : bools? xs with
    | none => rw [h] at e; cases e
    | some ns =>
      rw [h] at e
      cases e
      obtain ⟨p, vs, e1, l, r⟩ := px
      rw [bools_of h] at r
      rw [rps_bools r] at l
      exact ⟨p, ns, by rw [e1], .inl (.inl l), q.data w rfl⟩
  · cases e
theorem rul_any : Rul1 X dAny (fun x H Q => rAny X.K [x] H Q) := by
  intro F H B W x da c Q hF w px e q
  rw [← hF]
  unfold dAny at e
  split at e
  · rename_i xs
    cases h : bools? xs with
    | none => rw [h] at e; cases e
    | some ns =>
      rw [h] at e
      cases e
      obtain ⟨p, vs, e1, l, r⟩ := px
      rw [bools_of h] at r
      rw [rps_bools r] at l
      exact ⟨p, ns, by rw [e1], .inl (.inl l), q.data w rfl⟩
  · cases e
theorem rul_max : Rul1 X dMax (fun x H Q => rMax X.K [x] H Q) := by
  intro F H B W x da c Q hF w px e q
  rw [← hF]
  unfold dMax at e
  split at e
  · rename_i xs
    split at e
    · cases e
    · rename_i ns hne h
      cases e
      obtain ⟨p, vs, e1, l, r⟩ := px
      rw [ints_of h] at r
      rw [rps_ints r] at l
      have hn : ns ≠ [] := fun z => by subst z; exact hne rfl
      obtain ⟨s1, s2⟩ := maxL_spec hn
      refine ⟨p, ns, by rw [e1], .inl (.inl l), List.length_pos_iff.mpr hn, fun m h1 h2 => ?_⟩
      have : m = maxL ns := Int.le_antisymm (s2 m h1) (h2 _ s1)
      subst this
      exact q.data w rfl
    · cases e
  · cases e
theorem rul_min : Rul1 X dMin (fun x H Q => rMin X.K [x] H Q) := by
  intro F H B W x da c Q hF w px e q
  rw [← hF]
  unfold dMin at e
  split at e
  · rename_i xs
    split at e
    · cases e
    · rename_i ns hne h
      cases e
      obtain ⟨p, vs, e1, l, r⟩ := px
      rw [ints_of h] at r
      rw [rps_ints r] at l
      have hn : ns ≠ [] := fun z => by subst z; exact hne rfl
      obtain ⟨s1, s2⟩ := minL_spec hn
      refine ⟨p, ns, by rw [e1], .inl (.inl l), List.length_pos_iff.mpr hn, fun m h1 h2 => ?_⟩
      have : m = minL ns := Int.le_antisymm (h2 _ s1) (s2 m h1)
      subst this
      exact q.data w rfl
    · cases e
  · cases e
theorem rul_max2 : Rul2 X dMax2 (fun x y H Q => ∃ i j, [x, y] = [.int i, .int j] ∧ Q (.int (if j > i then j else i)) H) := by
  intro F H B W x y da db c Q hF w px py e q
  unfold dMax2 at e
  split at e
  · cases e; exact ⟨_, _, by rw [show x = _ from px, show y = _ from py], q.data w rfl⟩
  · cases e
theorem rul_min2 : Rul2 X dMin2 (fun x y H Q => ∃ i j, [x, y] = [.int i, .int j] ∧ Q (.int (if j < i then j else i)) H) := by
  intro F H B W x y da db c Q hF w px py e q
  unfold dMin2 at e
  split at e
  · cases e; exact ⟨_, _, by rw [show x = _ from px, show y = _ from py], q.data w rfl⟩
  · cases e
theorem rul_gcd : Rul2 X dGcd (fun x y H Q => rGcd [x, y] H Q) := by
  intro F H B W x y da db c Q hF w px py e q
  unfold dGcd at e
  split at e
  · cases e; exact ⟨_, _, by rw [show x = _ from px, show y = _ from py], q.data w rfl⟩
  · cases e
theorem kit_builtin (K : PySem.W.Frag) : ∀ t ∈ ["NoneType", "bool", "int", "str", "list", "tuple"], ∀ c ∈ ["int", "str", "list", "tuple", "dict", "bool"], PySem.W.kitOne K (.type t) (.type c) = some (isTy t c) := by
  intro t ht c hc
  simp only [List.mem_cons, List.not_mem_nil, or_false] at ht hc
  rcases ht with rfl | rfl | rfl | rfl | rfl | rfl <;> rcases hc with rfl | rfl | rfl | rfl | rfl | rfl <;> rfl
end

/-! ### sorted -/
def insI (x : Int) : List Int → List Int
  | [] => [x]
  | y :: r => if x ≤ y then x :: y :: r else y :: insI x r
def srtI : List Int → List Int
  | [] => []
  | x :: r => insI x (srtI r)
theorem insI_perm (x : Int) : ∀ l : List Int, (insI x l).Perm (x :: l)
  | [] => .refl _
  | y :: r => by
    unfold insI
    split
    · exact .refl _
    · exact ((insI_perm x r).cons y).trans (.swap x y r)
theorem srtI_perm : ∀ l : List Int, (srtI l).Perm l
  | [] => .refl _
  | x :: r => (insI_perm x _).trans ((srtI_perm r).cons x)
theorem insI_sorted (x : Int) : ∀ l : List Int, l.Pairwise (· ≤ ·) → (insI x l).Pairwise (· ≤ ·)
  | [], _ => by simp [insI]
  | y :: r, h => by
    unfold insI
    have h' := List.pairwise_cons.mp h
    split
    · rename_i hxy
      refine List.pairwise_cons.mpr ⟨fun z hz => ?_, h⟩
      rcases List.mem_cons.mp hz with rfl | hz
      · exact hxy
      · exact Int.le_trans hxy (h'.1 z hz)
    · rename_i hxy
      refine List.pairwise_cons.mpr ⟨fun z hz => ?_, insI_sorted x r h'.2⟩
      rcases List.mem_cons.mp ((insI_perm x r).mem_iff.mp hz) with rfl | hz
      · omega
      · exact h'.1 z hz
theorem srtI_sorted : ∀ l : List Int, (srtI l).Pairwise (· ≤ ·)
  | [] => .nil
  | x :: r => insI_sorted x _ (srtI_sorted r)
theorem sorted_uniq {a b : List Int} (h : a.Perm b) (ha : a.Pairwise (· ≤ ·)) (hb : b.Pairwise (· ≤ ·)) : a = b :=
  h.eq_of_pairwise (le := (· ≤ ·)) (fun x y _ _ h1 h2 => Int.le_antisymm h1 h2) ha hb
def dSorted : D → Option Cell
  | .list xs => match ints? xs with
    | some ns => some (.O ((srtI ns).map .int))
    | none => none
  | _ => none
theorem rps_mkI {K : PySem.W.Frag} {H : Hp} {B : Ad} : ∀ ns : List Int, Rps K H B (ns.map .int) (ns.map V.int)
  | [] => rfl
  | n :: ns => ⟨_, _, rfl, rfl, rps_mkI ns⟩
theorem rul_sorted {X : Cx} : Rul1 X dSorted (fun x H Q => rSortedI X.K [x] H Q) := by
  intro F H B W x da c Q hF w px e q
  rw [← hF]
  unfold dSorted at e
  split at e
  · rename_i xs
    cases h : ints? xs with
    | none => rw [h] at e; cases e
    | some ns =>
      rw [h] at e
      cases e
      obtain ⟨p, vs, e1, l, r⟩ := px
      rw [ints_of h] at r
      rw [rps_ints r] at l
      refine ⟨p, ns, by rw [e1], .inl (.inl l), fun ns' p' h1 h2 hp => ?_⟩
      have : ns' = srtI ns := sorted_uniq (h1.trans (srtI_perm ns).symm) h2 (srtI_sorted ns)
      subst this
      exact q.newL w (rps_mkI _) hp
  · cases e
end G

namespace G
open PySem PySem.Spec PyProof.Rows L2

/-! ### calls of built-ins -/
def okName (x : Str) : Bool := !(x == ("__name__" : Str)) && !(x == ("__debug__" : Str)) && !(x == ("__classdict__" : Str))
theorem okName_n {x : Str} (h : okName x = true) : x ≠ "__name__" := fun e => by
  subst e
  unfold okName at h
  rw [beq_self_eq_true] at h
  exact absurd h (by simp)
theorem okName_d {x : Str} (h : okName x = true) : (x == ("__debug__" : Str)) = false := by
  unfold okName at h
  simp only [Bool.and_eq_true, Bool.not_eq_true'] at h
  exact h.1.2
theorem okName_c {x : Str} (h : okName x = true) : (x == ("__classdict__" : Str)) = false := by
  unfold okName at h
  simp only [Bool.and_eq_true, Bool.not_eq_true'] at h
  exact h.2
theorem back_plain {pos : Pos} {env : PySem.Env} : ∀ {es : List Expr}, es.all notStar = true → (backTo pos (starEach es env)).any (·.1) = false
  | [], _ => rfl
  | e :: es, h => by
    rw [List.all_cons, Bool.and_eq_true] at h
    rw [star_cons h.1]
    show (false || (backTo pos (starEach es env)).any (·.1)) = false
    rw [back_plain h.2]
    rfl
theorem back_all {pos : Pos} {env : PySem.Env} : ∀ {es : List Expr}, es.all notStar = true → (backTo pos (starEach es env)).all (fun x => !x.1) = true
  | [], _ => rfl
  | e :: es, h => by
    rw [List.all_cons, Bool.and_eq_true] at h
    rw [star_cons h.1]
    show (!false && (backTo pos (starEach es env)).all (fun x => !x.1)) = true
    rw [back_all h.2]
    rfl
section
variable {X : Cx} {e a b : Expr} {f g : Sem1} {x : Str} {p pos : Pos} {id T : String} {r : List V → Hp → VK → Prop}
theorem se_b1 {op : D → Option Cell} (hc : CallR X (.builtin id) r) (hg : Gl X x) (hm : X.mg x = none) (hv : bootBuiltins x = some (.builtin id)) (hx : okName x = true) (ha : SE X a f) (hn : notStar a = true)
    (hr : Rul1 X op fun x H Q => r [x] H Q) : SE X (.Call (.Name x p) [a] [] pos) (s1 op f) :=
  se_1 (fun ta h => pe_callB hc hg hm hv (pa_cons h pa_nil (star_cons hn)) (okName_n hx) (okName_d hx) (star_cons hn) rfl) ha hr
theorem se_t1 {op : D → Option Cell} (hc : CallR X (.type T) r) (hg : Gl X x) (hm : X.mg x = none) (hv : bootBuiltins x = some (.type T)) (hx : okName x = true) (ha : SE X a f) (hn : notStar a = true)
    (hr : Rul1 X op fun x H Q => r [x] H Q) : SE X (.Call (.Name x p) [a] [] pos) (s1 op f) :=
  se_1 (fun ta h => pe_callTy hc hg hm hv (pa_cons h pa_nil (star_cons hn)) (okName_n hx) (okName_d hx) (star_cons hn) rfl) ha hr
theorem se_b2 {op : D → D → Option Cell} (hc : CallR X (.builtin id) r) (hg : Gl X x) (hm : X.mg x = none) (hv : bootBuiltins x = some (.builtin id)) (hx : okName x = true) (ha : SE X a f) (hb : SE X b g) (hn : notStar a = true) (hn2 : notStar b = true)
    (hr : Rul2 X op fun x y H Q => r [x, y] H Q) : SE X (.Call (.Name x p) [a, b] [] pos) (s2 op f g) :=
  se_2 (fun ta tb h k => pe_callB hc hg hm hv (pa_cons h (pa_cons k pa_nil (star_cons hn2)) (star_cons hn)) (okName_n hx) (okName_d hx) (star_cons hn) (back_plain (by simp [hn2]))) ha hb hr
theorem se_g2 {op : D → D → Option Cell} (hc : CallR X (.builtin id) r) (hg : Gl X x) (hm : X.mg x = some (.builtin id)) (hx : okName x = true) (ha : SE X a f) (hb : SE X b g) (hn : notStar a = true) (hn2 : notStar b = true)
    (hr : Rul2 X op fun x y H Q => r [x, y] H Q) : SE X (.Call (.Name x p) [a, b] [] pos) (s2 op f g) :=
  se_2 (fun ta tb h k => pe_callBfun hc hg hm (pa_cons h (pa_cons k pa_nil (star_cons hn2)) (star_cons hn)) (okName_d hx) (star_cons hn) (back_plain (by simp [hn2]))) ha hb hr
/-- isinstance(a, T) -/
theorem tyOf_tyX {K : PySem.W.Frag} {H : Hp} {B : Ad} {x : V} {d : D} {t : String} (h : Pk K H B x d) (e : tyOf d = some t) : TyX K H x (.type t) := by
  cases d with
  | none => cases h; cases e; exact .base .non
  | bool b => cases h; cases e; exact .base (.bl _)
  | int b => cases h; cases e; exact .base (.int _)
  | str b => cases h; cases e; exact .base (.str _)
  | list xs =>
    obtain ⟨p, vs, e1, l, r⟩ := h
    subst e1
    cases e
    exact .base (.lst l)
  | tuple xs =>
    obtain ⟨p, vs, e1, l, r⟩ := h
    subst e1
    cases e
    rcases l with (l | ⟨o, l⟩) | ⟨o, its, n, k, c, _⟩
    · exact .base (.tup l)
    · exact .fTuple l
    · exact .kTuple k c
  | dict _ => cases e
theorem tyOf_mem {d : D} {t : String} (e : tyOf d = some t) : t ∈ ["NoneType", "bool", "int", "str", "list", "tuple"] := by
  cases d <;> cases e <;> simp
theorem se_isi {c : Str} {T : String} {pc : Pos} (hg : Gl X "isinstance") (hm : X.mg "isinstance" = none) (hgc : Gl X c) (hmc : X.mg c = none) (hv : bootBuiltins c = some (.type T)) (hx : okName c = true)
    (hT : T ∈ ["int", "str", "list", "tuple", "dict", "bool"]) (ha : SE X a f) (hn : notStar a = true) : SE X (.Call (.Name "isinstance" p) [a, .Name c pc] [] pos) (s1 (dIsi T) f) := by
  refine se_1 (r := fun x H Q => rIsi X.K [x, .ty T] H Q) (fun ta h => ?_) ha ?_
  · exact pe_callB (t := tCons ta (tCons (tC (.ty T)) tNil)) call_isi hg hm (by decide +kernel) (pa_cons h (pa_cons (pe_bltn hgc hmc hv rfl (okName_n hx) (okName_d hx)) pa_nil rfl) (star_cons hn)) (by decide) (by decide) (star_cons hn) rfl
  · intro F H B W x da cc Q hF w px e q
    rw [← hF]
    unfold dIsi at e
    cases h : tyOf da with
    | none => rw [h] at e; cases e
    | some t =>
      rw [h] at e
      cases e
      exact ⟨x, .ty T, .type t, .type T, _, rfl, .ty T, tyOf_tyX px h, kit_builtin _ t (tyOf_mem h) T hT, q.data w rfl⟩
end

/-! ### methods that write an own list -/
/-- x.append(a) -/
def sApp (i : Nat) (f : Sem1) : Sem1 := fun Γ => match look Γ i with
  | some (.O _) => match sFz f Γ with
    | some (d, Γ1) => match look Γ1 i with
      | some (.O xs) => if xs.length < LIM then some (.val (.F .none), Γ1.set i (some (.O (xs ++ [d])))) else none
      | _ => none
    | none => none
  | _ => none
/-- x.extend(a) -/
def sExt (i : Nat) (f : Sem1) : Sem1 := fun Γ => match look Γ i with
  | some (.O _) => match f Γ with
    | some (va, Γ1) => match va.pv Γ1, look Γ1 i with
      | some (.list ys), some (.O xs) => if xs.length + ys.length ≤ LIM then some (.val (.F .none), Γ1.set i (some (.O (xs ++ ys)))) else none
      | _, _ => none
    | none => none
  | _ => none
/-- x.pop() -/
def sPop (i : Nat) : Sem1 := fun Γ => match look Γ i with
  | some (.O xs) => match xs[xs.length - 1]? with
    | some d => some (.val (.F d), Γ.set i (some (.O xs.dropLast)))
    | none => none
  | _ => none
/-- x.pop(a) -/
def sPopAt (i : Nat) (f : Sem1) : Sem1 := fun Γ => match look Γ i with
  | some (.O _) => match f Γ with
    | some (va, Γ1) => match va.pv Γ1, look Γ1 i with
      | some (.int k), some (.O xs) => match ixN xs.length k with
        | some j => match xs[j]? with
          | some d => if xs.length ≤ LIM then some (.val (.F d), Γ1.set i (some (.O (xs.eraseIdx j)))) else none
          | none => none
        | none => none
      | _, _ => none
    | none => none
  | _ => none
theorem Rps.dropLast {K : PySem.W.Frag} {H : Hp} {B : Ad} {ds : List D} {vs : List V} (h : Rps K H B ds vs) : Rps K H B ds.dropLast vs.dropLast := by
  rw [List.dropLast_eq_take, List.dropLast_eq_take, h.length]
  exact h.take _
theorem Rps.eraseIdx {K : PySem.W.Frag} {H : Hp} {B : Ad} {ds : List D} {vs : List V} (h : Rps K H B ds vs) (j : Nat) : Rps K H B (ds.eraseIdx j) (vs.eraseIdx j) := by
  rw [List.eraseIdx_eq_take_drop_succ, List.eraseIdx_eq_take_drop_succ]
  exact (h.take _).append (h.drop _)
theorem ixN_bounds {n : Nat} {i : Int} {j : Nat} (h : ixN n i = some j) (hn : n ≤ sizeLine) : seqIndex? i n = some j ∧ -(2 ^ 63) ≤ i ∧ i < 2 ^ 63 := by
  obtain ⟨a, b, c, d⟩ := ixN_seq h
  have := line63
  exact ⟨a, by omega, by omega⟩
section
variable {X : Cx} {a : Expr} {f : Sem1} {x : Str} {p apos cpos : Pos} {i : Nat}
theorem ste_slot {F : Fx} {H : Hp} {B W : Ad} {σ : Sg} {Γ : Env} {xs : List D} (S : Ste F H B W σ Γ) (h : look Γ i = some (.O xs)) : ∃ v p vs, σ[i]? = some (some v) ∧ v = .ref p ∧ H p = some (.lst vs) ∧ Rps F.K H B xs vs := by
  obtain ⟨R, h1, _⟩ := S.hold
  obtain ⟨v, hv, ⟨p, vs, e1, e2, l, r⟩, _⟩ := h1 i _ h
  exact ⟨v, p, vs, hv, e1, l, r⟩
theorem ste_v {F : Fx} {H : Hp} {B W : Ad} {σ : Sg} {Γ : Env} {c : Cell} (S : Ste F H B W σ Γ) (h : look Γ i = some c) : ∃ v, σ[i]? = some (some v) := by
  obtain ⟨R, h1, _⟩ := S.hold
  obtain ⟨v, hv, _⟩ := h1 i _ h
  exact ⟨v, hv⟩
theorem few1 {a : Expr} {env : PySem.Env} {cpos : Pos} (hn : notStar a = true) : ((backTo cpos (starEach [a] env)).all (fun x => !x.1) && (backToKw cpos (keywordEach [] env)).all (fun x => x.1.isSome)
      && decide ([a].length + ([] : List Keyword).length + (if ([] : List Keyword).isEmpty then 0 else 1) < 30)) = true := by
  rw [back_all (by simp [hn])]
  rfl
/-- the receiver's name: its slot, at once -/
theorem pe_rcv (hN : X.N[i]? = some x) (hv : Vis X.env.scope x) (hx : okName x = true) : PE X (.Name x p) (tVar i) := pe_var hN hv (okName_d hx) (okName_c hx)
theorem se_app (hN : X.N[i]? = some x) (hv : Vis X.env.scope x) (hx : okName x = true) (ha : SE X a f) (hn : notStar a = true) (hl : (apos.endLine == cpos.line) = true) :
    SE X (.Call (.Attribute (.Name x p) "append" apos) [a] [] cpos) (sApp i f) := fun F hF =>
  pimp (pe_bm PySem.F.plainAttrs_list PySem.F.slot_list_append PySem.F.type_list_append mt_append (pe_rcv (p := p) hN hv hx) (pa_cons (ha F hF) pa_nil (star_cons hn)) rfl (few1 hn) hl (star_cons hn) rfl) fun σ H Q ⟨Γ, B, W, vw, Γ', S, e, q⟩ => by
    unfold sApp at e
    split at e
    · rename_i xs0 h0
      split at e
      · rename_i d Γ1 e1
        split at e
        · rename_i xs h1
          split at e
          · rename_i hz
            cases e
            obtain ⟨v, pp, vs, hv0, e1', l0, r0⟩ := ste_slot S h0
            refine ⟨v, hv0, ?_, red_fz S e1 fun u H1 B1 W1 E1 S1 ru => ?_⟩
            · subst e1'
              exact .inl ⟨rfl, vs, .inl (.inl l0)⟩
            · obtain ⟨pp', vs', e2, l', r', go⟩ := S1.own h1 hv0
              obtain ⟨E2, S2⟩ := go (xs ++ [d]) (vs' ++ [u]) (r'.append ⟨u, [], rfl, ru, rfl⟩)
              exact ⟨pp', vs', u, e2, rfl, l', by rw [← r'.length, lim_eq]; exact hz, q _ _ B1 W1 (E1.trans E2) S2 (vokD rfl)⟩
          · cases e
        · cases e
      · cases e
    · cases e
theorem se_ext (hN : X.N[i]? = some x) (hv : Vis X.env.scope x) (hx : okName x = true) (ha : SE X a f) (hn : notStar a = true) (hl : (apos.endLine == cpos.line) = true) :
    SE X (.Call (.Attribute (.Name x p) "extend" apos) [a] [] cpos) (sExt i f) := fun F hF =>
  pimp (pe_bm PySem.F.plainAttrs_list PySem.F.slot_list_extend PySem.F.type_list_extend mt_extend (pe_rcv (p := p) hN hv hx) (pa_cons (ha F hF) pa_nil (star_cons hn)) rfl (few1 hn) hl (star_cons hn) rfl) fun σ H Q ⟨Γ, B, W, vw, Γ', S, e, q⟩ => by
    unfold sExt at e
    split at e
    · rename_i xs0 h0
      split at e
      · rename_i va Γ1 e1
        split at e
        · rename_i ys xs p1 h1
          split at e
          · rename_i hz
            cases e
            obtain ⟨v, pp, vs, hv0, e1', l0, r0⟩ := ste_slot S h0
            refine ⟨v, hv0, ?_, Γ, B, W, va, Γ1, S, e1, fun u H1 B1 W1 E1 S1 V1 => ?_⟩
            · subst e1'
              exact .inl ⟨rfl, vs, .inl (.inl l0)⟩
            · obtain ⟨pb, zs, eb, lb, rb⟩ := S1.pv V1 p1
              obtain ⟨pp', vs', e2, l', r', go⟩ := S1.own h1 hv0
              obtain ⟨E2, S2⟩ := go (xs ++ ys) (vs' ++ zs) (r'.append rb)
              exact ⟨pp', pb, vs', zs, e2, by rw [eb], l', lb, by rw [← r'.length, ← rb.length, lim_eq]; exact hz, q _ _ B1 W1 (E1.trans E2) S2 (vokD rfl)⟩
          · cases e
        · cases e
      · cases e
    · cases e
theorem se_pop (hN : X.N[i]? = some x) (hv : Vis X.env.scope x) (hx : okName x = true) (hl : (apos.endLine == cpos.line) = true) :
    SE X (.Call (.Attribute (.Name x p) "pop" apos) [] [] cpos) (sPop i) := fun F hF =>
  pimp (pe_bm0 PySem.F.plainAttrs_list PySem.F.slot_list_pop PySem.F.type_list_pop mt_pop (pe_rcv (p := p) hN hv hx) rfl hl) fun σ H Q ⟨Γ, B, W, vw, Γ', S, e, q⟩ => by
    unfold sPop at e
    split at e
    · rename_i xs h0
      split at e
      · rename_i d hd
        cases e
        obtain ⟨v, _, _, hv0, _, _, _⟩ := ste_slot S h0
        obtain ⟨pp, vs, e1, l, r, go⟩ := S.own h0 hv0
        obtain ⟨E2, S2⟩ := go _ _ r.dropLast
        obtain ⟨u, hu, ru⟩ := r.get hd
        refine ⟨v, hv0, ?_, pp, vs, u, e1, rfl, l, by rw [← r.length]; exact hu, q _ _ B W E2 S2 (vokD (ru.keep (E2.kp S.wl)))⟩
        subst e1
        exact .inl ⟨rfl, vs, .inl (.inl l)⟩
      · cases e
    · cases e
theorem se_popAt (hN : X.N[i]? = some x) (hv : Vis X.env.scope x) (hx : okName x = true) (ha : SE X a f) (hn : notStar a = true) (hl : (apos.endLine == cpos.line) = true) :
    SE X (.Call (.Attribute (.Name x p) "pop" apos) [a] [] cpos) (sPopAt i f) := fun F hF =>
  pimp (pe_bm PySem.F.plainAttrs_list PySem.F.slot_list_pop PySem.F.type_list_pop mt_popAt (pe_rcv (p := p) hN hv hx) (pa_cons (ha F hF) pa_nil (star_cons hn)) rfl (few1 hn) hl (star_cons hn) rfl) fun σ H Q ⟨Γ, B, W, vw, Γ', S, e, q⟩ => by
    unfold sPopAt at e
    split at e
    · rename_i xs0 h0
      split at e
      · rename_i va Γ1 e1
        split at e
        · rename_i k xs p1 h1
          split at e
          · rename_i j hj
            split at e
            · rename_i d hd
              split at e
              · rename_i hz
                cases e
                obtain ⟨v, pp, vs, hv0, e1', l0, r0⟩ := ste_slot S h0
                refine ⟨v, hv0, ?_, Γ, B, W, va, Γ1, S, e1, fun u H1 B1 W1 E1 S1 V1 => ?_⟩
                · subst e1'
                  exact .inl ⟨rfl, vs, .inl (.inl l0)⟩
                · obtain ⟨pp', vs', e2, l', r', go⟩ := S1.own h1 hv0
                  obtain ⟨E2, S2⟩ := go _ _ (r'.eraseIdx j)
                  obtain ⟨w, hw, rw'⟩ := r'.get hd
                  rw [r'.length] at hj hz
                  obtain ⟨c1, c2, c3⟩ := ixN_bounds hj (by rw [lim_eq]; exact hz)
                  exact ⟨pp', vs', k, j, w, e2, by rw [show u = .int k from S1.pv V1 p1], l', c2, c3, c1, hw, q _ _ B1 W1 (E1.trans E2) S2 (vokD (rw'.keep (E2.kp S1.wl)))⟩
              · cases e
            · cases e
          · cases e
        · cases e
      · cases e
    · cases e
end

/-! ### calls of defs -/
/-- how an argument is handed over: locked, or frozen -/
inductive Md where
  | lk | fr
inductive Itm where
  | sl (i : Nat)
  | dt (d : D)
def lockD : D → Cell
  | .list xs => .K xs
  | d => .F d
def sItm (m : Md) (f : Sem1) : Env → Option (Itm × Env) := fun Γ => match m with
  | .fr => match sFz f Γ with
    | some (d, Γ1) => some (.dt d, Γ1)
    | none => none
  | .lk => match f Γ with
    | some (.slot i, Γ1) => some (.sl i, Γ1)
    | some (.val c, Γ1) => match (Vw.val c).fz Γ1 with
      | some (d, Γ2) => some (.dt d, Γ2)
      | none => none
    | none => none
abbrev SemI := Env → Option (List Itm × Env)
def iNil : SemI := fun Γ => some ([], Γ)
def iCons (m : Md) (f : Sem1) (g : SemI) : SemI := fun Γ => match sItm m f Γ with
  | some (it, Γ1) => match g Γ1 with
    | some (its, Γ2) => some (it :: its, Γ2)
    | none => none
  | none => none
/-- what the items' values are -/
def ItOk (F : Fx) (H : Hp) (B : Ad) (σ : Sg) : Itm → V → Prop
  | .sl i, v => σ[i]? = some (some v)
  | .dt d, v => Rp F.K H B d v
def ItsOk (F : Fx) (H : Hp) (B : Ad) (σ : Sg) : List Itm → List V → Prop
  | [], vs => vs = []
  | it :: its, vs => ∃ v r, vs = v :: r ∧ ItOk F H B σ it v ∧ ItsOk F H B σ its r
def tI (F : Fx) (f : SemI) : TA := fun σ H Q => ∃ Γ B W its Γ', Ste F H B W σ Γ ∧ f Γ = some (its, Γ') ∧
  ∀ vs H' B' W', Ev H B W H' B' W' → Ste F H' B' W' σ Γ' → ItsOk F H' B' σ its vs → Q vs H'
def SI (X : Cx) (es : List Expr) (f : SemI) : Prop := ∀ F : Fx, F.K = X.K → PA X es (tI F f)
theorem ItOk.keep {F : Fx} {H H' : Hp} {B B' : Ad} {σ : Sg} {it : Itm} {v : V} (k : Kp H B H' B') (h : ItOk F H B σ it v) : ItOk F H' B' σ it v := by
  cases it with
  | sl i => exact h
  | dt d => exact Rp.keep k d v h
section
variable {X : Cx} {e : Expr} {es : List Expr} {f : Sem1} {fs : SemI}
theorem si_nil : SI X [] iNil := fun F hF => aimp pa_nil fun σ H Q ⟨Γ, B, W, its, Γ', S, e, q⟩ => by
  cases e
  exact q [] H B W (Ev.refl _ _ _) S rfl
theorem red_itm {F : Fx} {σ : Sg} {H : Hp} {m : Md} {Γ Γ' : Env} {B W : Ad} {it : Itm} {Q : VK} (S : Ste F H B W σ Γ) (e : sItm m f Γ = some (it, Γ'))
    (q : ∀ v H' B' W', Ev H B W H' B' W' → Ste F H' B' W' σ Γ' → ItOk F H' B' σ it v → Q v H') : tS F f σ H Q := by
  unfold sItm at e
  cases m with
  | fr =>
    dsimp only at e
    split at e
    · rename_i d Γ1 e1
      cases e
      exact red_fz S e1 fun v H' B' W' E' S' r => q v H' B' W' E' S' r
    · cases e
  | lk =>
    dsimp only at e
    split at e
    · rename_i i Γ1 e1
      cases e
      exact ⟨Γ, B, W, .slot i, _, S, e1, fun v H' B' W' E' S' V' => q v H' B' W' E' S' V'⟩
    · rename_i c Γ1 e1
      split at e
      · rename_i d Γ2 e2
        cases e
        refine ⟨Γ, B, W, .val c, Γ1, S, e1, fun v H1 B1 W1 E1 S1 V1 => ?_⟩
        obtain ⟨B2, W2, E2, S2, r⟩ := S1.fz E1 V1 e2
        exact q v H1 B2 W2 E2 S2 r
      · cases e
    · cases e
theorem si_cons {m : Md} (ha : SE X e f) (hr : SI X es fs) (hn : notStar e = true) : SI X (e :: es) (iCons m f fs) :=
  fun F hF => aimp (pa_cons (ha F hF) (hr F hF) (star_cons hn)) fun σ H Q ⟨Γ, B, W, its, Γ', S, e, q⟩ => by
    unfold iCons at e
    split at e
    · rename_i it Γ1 e1
      split at e
      · rename_i its' Γ2 e2
        cases e
        refine red_itm S e1 fun x H1 B1 W1 E1 S1 r1 => ⟨Γ1, B1, W1, its', _, S1, e2, fun xs H2 B2 W2 E2 S2 r2 => ?_⟩
        exact q _ H2 B2 W2 (E1.trans E2) S2 ⟨x, xs, rfl, r1.keep (E2.kp S1.wl), r2⟩
      · cases e
    · cases e
end
/-- the cell that an item hands over -/
def itCell (Γ : Env) : Itm → Option Cell
  | .sl i => match look Γ i with
    | some c => some (lockD c.pv)
    | none => none
  | .dt d => some (lockD d)
/-- .. frozen (the item is data then) -/
def itCellM (Γ : Env) : Md → Itm → Option Cell
  | .lk, it => itCell Γ it
  | .fr, .dt d => some (.F d)
  | .fr, .sl _ => none
def itCells (Γ : Env) : List Md → List Itm → Option (List Cell)
  | [], [] => some []
  | m :: ms, it :: its => match itCellM Γ m it, itCells Γ ms its with
    | some c, some cs => some (c :: cs)
    | _, _ => none
  | _, _ => none
def notSl (i : Nat) : Itm → Bool
  | .sl j => !(j == i)
  | .dt _ => true
abbrev Cal := List Cell → Option (Cell × Option Cell)
/-- what may be handed back -/
def Cell.ret : Cell → Bool
  | .F _ => true
  | .O _ => true
  | _ => false
/-- a call without and with an own list in front -/
def sCall (cal : Cal) (ms : List Md) (fs : SemI) : Sem1 := fun Γ => match fs Γ with
  | some (its, Γ1) => match itCells Γ1 ms its with
    | some cs => match cal cs with
      | some (c, _) => if c.ret then some (.val c, Γ1) else none
      | none => none
    | none => none
  | none => none
def sCallO (cal : Cal) (ms : List Md) (fs : SemI) : Sem1 := fun Γ => match fs Γ with
  | some (.sl i :: its, Γ1) => match look Γ1 i with
    | some (.O xs) => match its.all (notSl i), itCells Γ1 ms its with
      | true, some cs => match cal (.O xs :: cs) with
        | some (c, o) => if c.ret then some (.val c, Γ1.set i o) else none
        | none => none
      | _, _ => none
    | _ => none
  | _ => none
/-- what a def promises: as cal says -/
def spG (K : PySem.W.Frag) (np : Nat) (io : Bool) (cal : Cal) : Sp := fun vs H Q _ => vs.length = np ∧ ∃ (F : Fx) (B W : Ad) (cs : List Cell) (c : Cell) (o : Option Cell), F.K = K ∧
  Ste F H B W (vs.map some) (cs.map some) ∧ cs.length = np ∧ cal cs = some (c, o) ∧
  ∀ v H' B' W', Ev H B W H' B' W' → Ste F H' B' W' (vs.map some) (if io then [o] else []) → VOk F H W H' B' W' (vs.map some) (.val c) v → Q v H'

/-- what is fixed in the callee -/
def Fx.cal (F : Fx) (H : Hp) (Wc : Ad) : Fx := ⟨F.K, fun p => (∃ o, H p = some o) ∧ ¬ Wc p, fun _ => False⟩
section
variable {F : Fx} {H H' : Hp} {B W B' W' Wc Wc' : Ad} {σ : Sg} {Γ : Env} {v : V} {c : Cell}
theorem Wl.cal (w : Wl F H B W) (hW : ∀ p, Wc p → W p) : Wl (F.cal H Wc) H B Wc :=
  ⟨fun p b z => w.bw p b (hW p z), w.bt, fun p z => w.wt p (hW p z), fun p q => q.2, fun p q => q.1, fun p q => q.elim⟩
theorem lock_data (w : Wl F H B W) (hW : ∀ p, Wc p → W p) {d : D} (h : Rp F.K H B d v) : Holds (F.cal H Wc) H B Wc v (lockD d) [] := by
  unfold lockD
  split
  · rename_i xs
    obtain ⟨p, vs, e, ⟨b, l⟩, r⟩ := h
    exact ⟨p, vs, e, rfl, ⟨⟨_, l⟩, fun z => w.bw p b (hW p z)⟩, l, r⟩
  · exact ⟨rfl, h⟩
theorem lock_slot (S : Ste F H B W σ Γ) (hW : ∀ p, Wc p → W p) {i : Nat} (hv : σ[i]? = some (some v)) (hc : look Γ i = some c) (hne : ∀ xs p, c = .O xs → v = .ref p → ¬ Wc p) : Holds (F.cal H Wc) H B Wc v (lockD c.pv) [] := by
  obtain ⟨R, h1, _⟩ := S.hold
  obtain ⟨v', a1, a2, a3, a4, a5⟩ := h1 i c hc
  rw [hv] at a1; cases a1
  cases c with
  | F a => exact lock_data S.wl hW a2.2
  | O xs =>
    obtain ⟨p, vs, e, _, l, r⟩ := a2
    exact ⟨p, vs, e, rfl, ⟨⟨_, l⟩, hne xs p rfl e⟩, l, r⟩
  | K xs =>
    obtain ⟨p, vs, e, _, q, l, r⟩ := a2
    exact ⟨p, vs, e, rfl, ⟨⟨_, l⟩, fun z => S.wl.pw p q (hW p z)⟩, l, r⟩
  | M xs =>
    obtain ⟨p, vs, e, _, q, l, r⟩ := a2
    exact ⟨p, vs, e, rfl, ⟨⟨_, l⟩, fun z => (S.wl.lw p q).1 (hW p z)⟩, l, r⟩
theorem its_holds (S : Ste F H B W σ Γ) (hW : ∀ p, Wc p → W p) : ∀ {ms : List Md} {its : List Itm} {vs : List V} {cs : List Cell}, ItsOk F H B σ its vs → itCells Γ ms its = some cs →
    (∀ i ∈ its, ∀ j, i = .sl j → ∀ xs v p, look Γ j = some (.O xs) → σ[j]? = some (some v) → v = .ref p → ¬ Wc p) → vs.length = cs.length ∧ vs.length = ms.length ∧ ∀ (a : Nat) (c : Cell), cs[a]? = some c → ∃ v, vs[a]? = some v ∧ Holds (F.cal H Wc) H B Wc v c [] ∧ c.wr = false
  | [], [], _, cs, h, e, _ => by
    cases e
    cases h
    exact ⟨rfl, rfl, fun a c h => by simp at h⟩
  | m :: ms, it :: its, _, cs, ⟨v, r, ev, h1, h2⟩, e, hn => by
    subst ev
    unfold itCells at e
    split at e
    · rename_i c cs' e1 e2
      cases e
      obtain ⟨l1, l2, ih⟩ := its_holds S hW h2 e2 fun i hi => hn i (List.mem_cons_of_mem _ hi)
      refine ⟨by simp [l1], by simp [l2], fun a c' hc => ?_⟩
      cases a with
      | succ a => exact ih a c' (by simpa using hc)
      | zero =>
        have hc' : c = c' := by simpa using hc
        subst hc'
        refine ⟨v, by simp, ?_⟩
        have lw : ∀ d : D, (lockD d).wr = false := fun d => by unfold lockD; split <;> rfl
        cases m with
        | lk =>
          cases it with
          | sl i =>
            have e1' : itCell Γ (.sl i) = some c := e1
            unfold itCell at e1'
            dsimp only at e1'
            split at e1'
            · rename_i c0 h0
              cases e1'
              exact ⟨lock_slot S hW h1 h0 fun xs p ec ev => hn (.sl i) List.mem_cons_self i rfl xs v p (by rw [h0, ec]) h1 ev, lw _⟩
            · cases e1'
          | dt d =>
            cases e1
            exact ⟨lock_data S.wl hW h1, lw _⟩
        | fr =>
          cases it with
          | sl i => cases e1
          | dt d =>
            cases e1
            exact ⟨⟨rfl, h1⟩, rfl⟩
    · cases e
  | [], _ :: _, _, _, _, e, _ => by cases e
  | _ :: _, [], _, _, _, e, _ => by cases e
/-- Γ of a list of cells -/
theorem look_map {cs : List Cell} {a : Nat} {c : Cell} (h : look (cs.map some) a = some c) : cs[a]? = some c := by
  unfold look at h
  rw [List.getElem?_map] at h
  cases q : cs[a]? with
  | none => rw [q] at h; cases h
  | some x => rw [q] at h; cases h; rfl
/-- behind a call: the caller's state -/
theorem Wl.back (w : Wl F H B W) (hW : ∀ p, Wc p → W p) (E : Ev H B Wc H' B' Wc') (w' : Wl (F.cal H Wc) H' B' Wc') : Wl F H' B' (fun p => W p ∧ (Wc p → Wc' p)) := by
  refine ⟨fun p b z => ?_, w'.bt, fun p z => ?_, fun p q z => w.pw p q z.1, fun p q => ?_, fun p q => ?_⟩
  · rcases E.bnew p b with b' | b' | b'
    · exact w.bw p b' z.1
    · obtain ⟨o, e, _⟩ := w.wt p z.1
      rw [b'] at e; cases e
    · exact w'.bw p b (z.2 b')
  · by_cases q : Wc p
    · exact w'.wt p (z.2 q)
    · obtain ⟨o, e, m⟩ := w.wt p z.1
      exact ⟨o, E.stay p o e q, m⟩
  · obtain ⟨o, e⟩ := w.pt p q
    exact ⟨o, E.stay p o e fun z => w.pw p q (hW p z)⟩
  · obtain ⟨a, b, o, e⟩ := w.lw p q
    exact ⟨fun z => a z.1, E.outB e (fun z => a (hW p z)) b, o, E.stay p o e fun z => a (hW p z)⟩
theorem Ev.back (w : Wl F H B W) (hW : ∀ p, Wc p → W p) (E : Ev H B Wc H' B' Wc') : Ev H B W H' B' (fun p => W p ∧ (Wc p → Wc' p)) :=
  ⟨E.bsub, fun p b => (E.bnew p b).imp id fun z => z.imp id (hW p), fun p z => .inl z.1, fun p o e z => E.stay p o e fun y => z (hW p y)⟩
theorem Holds.ret {R : List Addr} (h : Holds (F.cal H Wc) H' B' Wc' v c R) (hr : c.ret = true) (W2 : Ad) : Holds F H' B' W2 v c R := by
  cases c with
  | F a => exact h
  | O xs => exact h
  | K xs => exact nomatch hr
  | M xs => exact nomatch hr
theorem VOk.back {s : Sg} (w : Wl F H B W) (hW : ∀ p, Wc p → W p) (h : VOk (F.cal H Wc) H Wc H' B' Wc' s (.val c) v) (hr : c.ret = true) : VOk F H W H' B' (fun p => W p ∧ (Wc p → Wc' p)) σ (.val c) v := by
  obtain ⟨R, h1, h2, h3⟩ := h
  refine ⟨R, h1.ret hr _, h2, fun p hp => ?_⟩
  obtain ⟨a, b, _, _, d⟩ := h3 p hp
  refine ⟨a, fun z => ?_, fun z => ?_, fun z => ?_, d.imp id (hW p)⟩
  · rcases d with d | d
    · obtain ⟨o, e, _⟩ := w.wt p z.1
      rw [d] at e; cases e
    · exact b (z.2 d)
  · rcases d with d | d
    · obtain ⟨o, e⟩ := w.pt p z
      rw [d] at e; cases e
    · exact w.pw p z (hW p d)
  · rcases d with d | d
    · obtain ⟨o, e⟩ := (w.lw p z).2.2
      rw [d] at e; cases e
    · exact (w.lw p z).1 (hW p d)
/-- a call without an own list in front -/
theorem call_plain {ms : List Md} {its : List Itm} {vs : List V} {cs : List Cell} {cal : Cal} {Q : VK} {E0 : XK} {o : Option Cell} (S : Ste F H B W σ Γ) (ho : ItsOk F H B σ its vs) (e : itCells Γ ms its = some cs) (hc : cal cs = some (c, o)) (hr : c.ret = true)
    (q : ∀ v H' B' W', Ev H B W H' B' W' → Ste F H' B' W' σ Γ → VOk F H W H' B' W' σ (.val c) v → Q v H') : spG F.K ms.length false cal vs H Q E0 := by
  have hW : ∀ p, (fun _ : Addr => False) p → W p := fun p z => z.elim
  obtain ⟨l1, l2, hh⟩ := its_holds S hW ho e fun _ _ _ _ _ _ _ _ _ _ z => z
  refine ⟨l2, F.cal H fun _ => False, B, fun _ => False, cs, c, o, rfl, ⟨S.wl.cal hW, fun _ => [], fun a c' hl => ?_, fun _ _ _ _ _ z => by cases z⟩, by omega, hc, fun v H' B' Wc' E S' V' => ?_⟩
  · obtain ⟨v, hv, h, hw⟩ := hh a c' (look_map hl)
    exact ⟨v, by rw [List.getElem?_map, hv]; rfl, h, List.nodup_nil, fun p hp => (by cases hp), fun z => by rw [hw] at z; cases z⟩
  · refine q v H' B' _ (E.back S.wl hW) ?_ (V'.back S.wl hW hr)
    exact S.go (E.back S.wl hW) (S.wl.back hW E S'.wl) fun p z => ⟨⟨z, fun y => y.elim⟩, fun xs l => E.stay p _ l fun y => y⟩
/-- with an own list in front -/
theorem call_own {ms : List Md} {its : List Itm} {vs : List V} {cs : List Cell} {cal : Cal} {Q : VK} {E0 : XK} {o : Option Cell} {i : Nat} {xs : List D} (S : Ste F H B W σ Γ) (hv : σ[i]? = some (some v)) (hi : look Γ i = some (.O xs)) (ho : ItsOk F H B σ its vs)
    (hn : its.all (notSl i) = true) (e : itCells Γ ms its = some cs) (hc : cal (.O xs :: cs) = some (c, o)) (hr : c.ret = true)
    (q : ∀ v H' B' W', Ev H B W H' B' W' → Ste F H' B' W' σ (Γ.set i o) → VOk F H W H' B' W' σ (.val c) v → Q v H') : spG F.K (ms.length + 1) true cal (v :: vs) H Q E0 := by
  obtain ⟨R, g1, g2⟩ := S.hold
  obtain ⟨v0, a1, ⟨p0, ws, ev, eR, l0, r0⟩, a3, a4, a5⟩ := g1 i _ hi
  rw [hv] at a1; cases a1
  have hp0 : p0 ∈ R i := by simp [eR]
  have wp0 : W p0 := a5 rfl p0 hp0
  have hW : ∀ p, (fun p : Addr => p = p0) p → W p := fun p z => by rw [show p = p0 from z]; exact wp0
  obtain ⟨l1, l2, hh⟩ := its_holds S hW ho e fun it hit j ej ys u p hj hu eu z => by
    subst ej
    have hji : j ≠ i := by
      have := List.all_eq_true.mp hn _ hit
      simpa [notSl] using this
    obtain ⟨u', b1, ⟨p', ws', ev', eR', _⟩, _⟩ := g1 j _ hj
    rw [hu] at b1; cases b1
    rw [eu] at ev'; cases ev'
    have z' : p = p0 := z
    exact hji (g2 j i p (by rw [hj]; rfl) (by rw [hi]; rfl) (by simp [eR']) (by rw [z']; exact hp0))
  have Sc : Ste (F.cal H fun p => p = p0) H B (fun p => p = p0) ((v :: vs).map some) ((Cell.O xs :: cs).map some) := by
    refine ⟨S.wl.cal hW, fun a => if a = 0 then [p0] else [], fun a c' hl => ?_, fun a b p ha hb hpa hpb => ?_⟩
    · have hl' := look_map hl
      cases a with
      | zero =>
        have : Cell.O xs = c' := by simpa using hl'
        subst this
        refine ⟨v, by simp, ⟨p0, ws, ev, by simp, l0, r0⟩, by simp, fun p hp => ?_, fun _ p hp => ?_⟩
        · have hp' : p = p0 := by simpa using hp
          subst hp'
          exact ⟨(a4 p hp0).1, fun z => z.2 rfl⟩
        · simpa using hp
      | succ a =>
        obtain ⟨u, hu, h, hw⟩ := hh a c' (by simpa using hl')
        exact ⟨u, by rw [List.getElem?_map, List.getElem?_cons_succ, hu]; rfl, by simpa using h, by simp, fun p hp => by simp at hp, fun z => by rw [hw] at z; cases z⟩
    · cases a with
      | zero =>
        cases b with
        | zero => rfl
        | succ b => simp at hpb
      | succ a => simp at hpa
  refine ⟨by simp [l2], F.cal H fun p => p = p0, B, fun p => p = p0, .O xs :: cs, c, o, rfl, Sc, by simp; omega, hc, fun u H' B' Wc' E S' V' => ?_⟩
  have E2 := E.back S.wl hW
  have w2 := S.wl.back hW E S'.wl
  have k := E2.kp S.wl
  refine q u H' B' _ E2 ?_ (V'.back S.wl hW hr)
  obtain ⟨Rc, f1, f2⟩ := S'.hold
  have S'' : look ((if true = true then [o] else [] : Env)) 0 = o := rfl
  -- what the own list has become
  refine S.put i o (match o with | some _ => Rc 0 | none => []) w2 k (fun p xs' hq l => Kp.rd E2 S.wl hq l) (fun _ _ _ z => z) (fun R' b1 b2 j c' x hji hj hx => ?_) (fun c' hc' => ?_)
  · obtain ⟨v2, d1, ⟨p2, ws2, ev2, eR2, _⟩, _⟩ := b1 i _ hi
    rw [hv] at d1; cases d1
    rw [ev] at ev2; cases ev2
    have ne : x ≠ p0 := fun z => hji (b2 j i x (by rw [hj]; rfl) (by rw [hi]; rfl) hx (by rw [eR2, z]; exact List.mem_singleton.mpr rfl))
    obtain ⟨v3, c1, c2, c3, c4, c5⟩ := b1 j c' hj
    obtain ⟨ws3, t3⟩ := c2.there x hx
    refine ⟨E.outB t3 (fun z => ne z) (c4 x hx).1, fun z => ⟨z, fun y => absurd y ne⟩, fun xs' z => E.stay x _ z fun y => ne y, ?_⟩
    cases o with
    | none => simp
    | some co =>
      obtain ⟨v4, d1, d2, d3, d4, d5⟩ := f1 0 co rfl
      have ev4 : v4 = v := by simpa using d1.symm
      subst ev4
      intro hmem
      have hmem' : x ∈ Rc 0 := hmem
      cases co with
      | F a => rw [d2.1] at hmem'; cases hmem'
      | O ys =>
        obtain ⟨p5, ws5, ev5, eR5, _⟩ := d2
        rw [ev] at ev5; cases ev5
        rw [eR5] at hmem'
        exact ne (List.mem_singleton.mp hmem')
      | K ys => obtain ⟨p5, ws5, ev5, eR5, _⟩ := d2; rw [eR5] at hmem'; cases hmem'
      | M ys => obtain ⟨p5, ws5, ev5, eR5, hl5, _⟩ := d2; exact hl5.elim
  · subst hc'
    obtain ⟨v4, d1, d2, d3, d4, d5⟩ := f1 0 c' rfl
    have ev4 : v4 = v := by simpa using d1.symm
    subst ev4
    refine ⟨v4, hv, ?_, d3, fun p hp => ⟨(d4 p hp).1, ?_⟩, fun hw p hp => ?_⟩
    · cases c' with
      | F a => exact d2
      | O ys => exact d2
      | K ys =>
        obtain ⟨p5, ws5, ev5, eR5, hq5, _⟩ := d2
        rw [ev] at ev5; cases ev5
        exact absurd rfl hq5.2
      | M ys => obtain ⟨p5, ws5, ev5, eR5, hl5, _⟩ := d2; exact hl5.elim
    · cases c' with
      | F a => have := d2.1; rw [this] at hp; cases hp
      | O ys =>
        obtain ⟨p5, ws5, ev5, eR5, _⟩ := d2
        rw [ev] at ev5; cases ev5
        rw [eR5] at hp
        rw [List.mem_singleton.mp hp]
        exact (a4 p0 hp0).2
      | K ys => obtain ⟨p5, ws5, ev5, eR5, _⟩ := d2; have hp' : p ∈ Rc 0 := hp; rw [eR5] at hp'; cases hp'
      | M ys => obtain ⟨p5, ws5, ev5, eR5, hl5, _⟩ := d2; exact hl5.elim
    · cases c' with
      | O ys =>
        have d5' := d5 rfl p hp
        obtain ⟨p5, ws5, ev5, eR5, _⟩ := d2
        rw [ev] at ev5; cases ev5
        have hp' : p ∈ Rc 0 := hp
        rw [eR5] at hp'
        have : p = p0 := List.mem_singleton.mp hp'
        subst this
        exact ⟨wp0, fun _ => d5'⟩
      | F a => cases hw
      | K ys => cases hw
      | M ys => cases hw
end

/-! ### methods that look: a receiver, one argument -/
def sM1 (ok : D → Bool) (op : D → D → Option Cell) (f g : Sem1) : Sem1 := fun Γ => match f Γ with
  | none => none
  | some (va, Γ1) => match va.pv Γ1 with
    | none => none
    | some d0 => if ok d0 = true then match g Γ1 with
      | none => none
      | some (vb, Γ2) => match va.pv Γ2, vb.pv Γ2 with
        | some da, some db => (op da db).map fun c => (.val c, Γ2)
        | _, _ => none
      else none
def sM0 (ok : D → Bool) (op : D → Option Cell) (f : Sem1) : Sem1 := fun Γ => match f Γ with
  | none => none
  | some (va, Γ1) => match va.pv Γ1 with
    | none => none
    | some d0 => if ok d0 = true then (op d0).map fun c => (.val c, Γ1) else none
def isL : D → Bool
  | .list _ => true
  | _ => false
def isS : D → Bool
  | .str _ => true
  | _ => false
theorem ty_isL {K : PySem.W.Frag} {H : Hp} {B : Ad} {v : V} {d : D} (h : Pk K H B v d) (e : isL d = true) : tyV K "list" v H := by
  cases d <;> first | cases e | skip
  obtain ⟨a, xs, rfl, l, r⟩ := h
  exact .inl ⟨rfl, xs, .inl (.inl l)⟩
theorem ty_isS {K : PySem.W.Frag} {H : Hp} {B : Ad} {v : V} {d : D} (h : Pk K H B v d) (e : isS d = true) : tyV K "str" v H := by
  cases d <;> first | cases e | skip
  cases h
  rfl
section
variable {X : Cx} {a o : Expr} {f g : Sem1} {apos cpos : Pos} {name : Str} {T id : String} {r : V → List V → Hp → VK → Prop} {ok : D → Bool}
theorem se_m1 {op : D → D → Option Cell} (pa : PlainAttrs T) (slot : Slot T name id) (hty : typeOf (.builtin id) = pure (.type "method_descriptor")) (hm : MtR X id r) (hT : ∀ {K : PySem.W.Frag} {H : Hp} {B : Ad} {v : V} {d : D}, Pk K H B v d → ok d = true → tyV K T v H)
    (hr : ∀ (F : Fx) (H : Hp) (B W : Ad) (x y : V) (da db : D) (c : Cell) (Q : VK), F.K = X.K → Wl F H B W → Pk F.K H B x da → Pk F.K H B y db → op da db = some c → Res F H B W c Q → r x [y] H Q)
    (ho : SE X o f) (ha : SE X a g) (hn : notStar a = true) (hl : (apos.endLine == cpos.line) = true) (hb : attributeBase o name X.env (eval o X.env) = eval o X.env) :
    SE X (.Call (.Attribute o name apos) [a] [] cpos) (sM1 ok op f g) := fun F hF =>
  pimp (pe_bm pa slot hty hm (ho F hF) (pa_cons (ha F hF) pa_nil (star_cons hn)) hb (few1 hn) hl (star_cons hn) rfl) fun σ H Q ⟨Γ, B, W, vw, Γ', S, e, q⟩ => by
    unfold sM1 at e
    split at e
    · cases e
    rename_i va Γ1 e1
    split at e
    · cases e
    rename_i d0 p0
    split at e
    · rename_i hok
      split at e
      · cases e
      rename_i vb Γ2 e2
      split at e
      · rename_i da db p1 p2
        cases h : op da db with
        | none => rw [h] at e; cases e
        | some c =>
          rw [h] at e
          cases e
          refine ⟨Γ, B, W, va, Γ1, S, e1, fun x H1 B1 W1 E1 S1 V1 => ⟨hF ▸ hT (S1.pv V1 p0) hok, ⟨_, B1, W1, vb, _, S1, e2, fun y H2 B2 W2 E2 S2 V2 => ?_⟩⟩⟩
          refine hr F H2 B2 W2 x y da db c _ hF S2.wl (S2.pv (V1.keep S1.wl E2) p1) (S2.pv V2 p2) h fun v H' E' w' go V' => ?_
          exact q v H' B2 W2 ((E1.trans E2).trans E') (go _ _ S2) ((V' σ).base (E1.trans E2))
      · cases e
    · cases e
theorem se_m0 {op : D → Option Cell} (pa : PlainAttrs T) (slot : Slot T name id) (hty : typeOf (.builtin id) = pure (.type "method_descriptor")) (hm : MtR X id r) (hT : ∀ {K : PySem.W.Frag} {H : Hp} {B : Ad} {v : V} {d : D}, Pk K H B v d → ok d = true → tyV K T v H)
    (hr : ∀ (F : Fx) (H : Hp) (B W : Ad) (x : V) (da : D) (c : Cell) (Q : VK), F.K = X.K → Wl F H B W → Pk F.K H B x da → op da = some c → Res F H B W c Q → r x [] H Q)
    (ho : SE X o f) (hl : (apos.endLine == cpos.line) = true) (hb : attributeBase o name X.env (eval o X.env) = eval o X.env) :
    SE X (.Call (.Attribute o name apos) [] [] cpos) (sM0 ok op f) := fun F hF =>
  pimp (pe_bm0 pa slot hty hm (ho F hF) hb hl) fun σ H Q ⟨Γ, B, W, vw, Γ', S, e, q⟩ => by
    unfold sM0 at e
    split at e
    · cases e
    rename_i va Γ1 e1
    split at e
    · cases e
    rename_i d0 p0
    split at e
    · rename_i hok
      cases h : op d0 with
      | none => rw [h] at e; cases e
      | some c =>
        rw [h] at e
        cases e
        refine ⟨Γ, B, W, va, _, S, e1, fun x H1 B1 W1 E1 S1 V1 => ⟨hF ▸ hT (S1.pv V1 p0) hok, ?_⟩⟩
        refine hr F H1 B1 W1 x d0 c _ hF S1.wl (S1.pv V1 p0) h fun v H' E' w' go V' => ?_
        exact q v H' B1 W1 (E1.trans E') (go _ _ S1) ((V' σ).base E1)
    · cases e
end
/-- xs.index(x) -/
def dIndex : D → D → Option Cell
  | .list xs, d => if (SeqAt.shaped (.list xs) && SeqAt.shaped d) = true then match xs.findIdx? (fun z => PyData.eqv z d) with
      | some j => some (.F (.int j))
      | none => none
    else none
  | _, _ => none
mutual
theorem plain_lay : ∀ d : D, d.canLay0 = true → d.plain = true
  | .none, _ => rfl
  | .bool _, _ => rfl
  | .int _, _ => rfl
  | .str _, _ => rfl
  | .list xs, h => plain_layAll xs h
  | .tuple xs, h => plain_layAll xs h
  | .dict _, h => by cases h
theorem plain_layAll : ∀ ds : List D, PyData.canLayAll0 ds = true → PyData.plainAll ds = true
  | [], _ => rfl
  | d :: ds, h => by
    rw [PyData.canLayAll0, Bool.and_eq_true] at h
    rw [PyData.plainAll, plain_lay d h.1, plain_layAll ds h.2]
    rfl
end
theorem rul_index {X : Cx} : ∀ (F : Fx) (H : Hp) (B W : Ad) (x y : V) (da db : D) (c : Cell) (Q : VK), F.K = X.K → Wl F H B W → Pk F.K H B x da → Pk F.K H B y db → dIndex da db = some c → Res F H B W c Q → rIndexD X.K x [y] H Q := by
  intro F H B W x y da db c Q hF w px py e q
  unfold dIndex at e
  split at e
  · rename_i xs
    split at e
    · rename_i hs
      rw [Bool.and_eq_true] at hs
      split at e
      · rename_i j hj
        cases e
        obtain ⟨hlt, h1, h2⟩ := List.findIdx?_eq_some_iff_getElem.mp hj
        have hd : Dp F.K H x (.list xs) := px.dp (plain_lay _ (SeqAt.canLay_of_shaped hs.1))
        have hy : Dp F.K H y db := py.dp (plain_lay _ (SeqAt.canLay_of_shaped hs.2))
        obtain ⟨a, vs, ex, l, r⟩ := px
        subst ex
        rw [← hF]
        refine ⟨a, y, db, xs, j, xs[j], rfl, rfl, hd, hy, hs.1, hs.2, List.getElem?_eq_getElem hlt, h1, fun m z' hm hz => ?_, q.data w rfl⟩
        have := h2 m hm
        obtain ⟨hm', e'⟩ := List.getElem?_eq_some_iff.mp hz
        rw [e'] at this
        simpa using this
      · cases e
    · cases e
  · cases e
end G

namespace G
open PySem PySem.Spec PyProof.Rows L2

section
variable {X : Cx} {e : Expr} {es : List Expr} {fs : SemI} {x : Str} {p pos : Pos} {k : Nat} {f : Addr} {fd : FuncData} {ps : List Str} {cal : Cal} {ms : List Md}
/-- f(e, ..) of a def -/
theorem se_call (F0 : FnOk X.prog X.w X.K X.mg X.base CX0 k f fd ps (spG X.K ms.length false cal)) (hr : Room k X.A) (hg : Gl X x) (hm : X.mg x = some (.ref f)) (hk : PySem.W.keepIn X.K (.ref f) = true) (hb : Binds X.K fd ps [])
    (hx : okName x = true) (ha : SI X (e :: es) fs) (hn : (e :: es).all notStar = true) : SE X (.Call (.Name x p) (e :: es) [] pos) (sCall cal ms fs) := fun F hF => by
  have hn' : notStar e = true ∧ es.all notStar = true := by simpa using hn
  refine pimp (pe_call (E := E0) F0 hr hg hm hk hb .nil pass0 (ha F hF) (okName_d hx) (star_cons hn'.1) (back_plain hn'.2)) fun σ H Q ⟨Γ, B, W, vw, Γ', S, e, q⟩ => ?_
  unfold sCall at e
  split at e
  · rename_i its Γ1 e1
    split at e
    · rename_i cs e2
      split at e
      · rename_i c o e3
        split at e
        · rename_i hret
          cases e
          refine ⟨Γ, B, W, its, _, S, e1, fun vs H1 B1 W1 E1 S1 I1 => ?_⟩
          dsimp only
          rw [List.append_nil, ← hF]
          exact call_plain S1 I1 e2 e3 hret fun v H2 B2 W2 E2 S2 V2 => q v H2 B2 W2 (E1.trans E2) S2 (V2.base E1)
        · cases e
      · cases e
    · cases e
  · cases e
/-- f() -/
theorem se_call0 (F0 : FnOk X.prog X.w X.K X.mg X.base CX0 k f fd ps (spG X.K 0 false cal)) (hr : Room k X.A) (hg : Gl X x) (hm : X.mg x = some (.ref f)) (hk : PySem.W.keepIn X.K (.ref f) = true) (hb : Binds X.K fd ps [])
    (hx : okName x = true) : SE X (.Call (.Name x p) [] [] pos) (sCall cal [] iNil) := fun F hF => by
  refine pimp (pe_call0 (E := E0) F0 hr hg hm hk hb .nil pass0 (okName_d hx)) fun σ H Q ⟨Γ, B, W, vw, Γ', S, e, q⟩ => ?_
  unfold sCall iNil at e
  dsimp only at e
  split at e
  · rename_i cs e2
    split at e
    · rename_i c o e3
      split at e
      · rename_i hret
        cases e
        rw [← hF]
        exact call_plain (E0 := E0) (ms := []) (its := []) (vs := []) S rfl e2 e3 hret fun v H2 B2 W2 E2 S2 V2 => q v H2 B2 W2 E2 S2 V2
      · cases e
    · cases e
  · cases e
/-- f(own list, e, ..) -/
theorem se_callO (F0 : FnOk X.prog X.w X.K X.mg X.base CX0 k f fd ps (spG X.K (ms.length + 1) true cal)) (hr : Room k X.A) (hg : Gl X x) (hm : X.mg x = some (.ref f)) (hk : PySem.W.keepIn X.K (.ref f) = true) (hb : Binds X.K fd ps [])
    (hx : okName x = true) (ha : SI X (e :: es) fs) (hn : (e :: es).all notStar = true) : SE X (.Call (.Name x p) (e :: es) [] pos) (sCallO cal ms fs) := fun F hF => by
  have hn' : notStar e = true ∧ es.all notStar = true := by simpa using hn
  refine pimp (pe_call (E := E0) F0 hr hg hm hk hb .nil pass0 (ha F hF) (okName_d hx) (star_cons hn'.1) (back_plain hn'.2)) fun σ H Q ⟨Γ, B, W, vw, Γ', S, e, q⟩ => ?_
  unfold sCallO at e
  split at e
  · rename_i i its Γ1 e1
    split at e
    · rename_i xs e0
      split at e
      · rename_i cs hns e2
        split at e
        · rename_i c o e3
          split at e
          · rename_i hret
            cases e
            refine ⟨Γ, B, W, .sl i :: its, _, S, e1, fun vs H1 B1 W1 E1 S1 I1 => ?_⟩
            obtain ⟨v, r, ev, h1, h2⟩ := I1
            subst ev
            skip
            rw [List.append_nil, ← hF]
            exact call_own S1 h1 e0 h2 hns e2 e3 hret fun v H2 B2 W2 E2 S2 V2 => q v H2 B2 W2 (E1.trans E2) S2 (V2.base E1)
          · cases e
        · cases e
      · cases e
    · cases e
  · cases e
end

/-! ### statements -/
inductive Fl where
  | nx | bk | ct
  | rt (c : Cell)
abbrev SemS := Env → Option (Fl × Env)
abbrev As := Nat → Bool
/-- what is wanted at a statement's end -/
def FEnd (F : Fx) (H : Hp) (W : Ad) (H' : Hp) (B' W' : Ad) (σ' : Sg) (D : Ends) : Fl → Prop
  | .nx => D.nx σ' H'
  | .bk => D.bk σ' H'
  | .ct => D.ct σ' H'
  | .rt c => ∀ v, VOk F H W H' B' W' σ' (.val c) v → D.rt v H'
/-- the slots besides as are as they were -/
def Agr (as : As) (σ σ' : Sg) : Prop := ∀ j, as j = false → σ'[j]? = σ[j]?
def tK (F : Fx) (n : Nat) (as : As) (f : SemS) : TS := fun D σ H => σ.length = n ∧ ∃ Γ B W fl Γ', Ste F H B W σ Γ ∧ f Γ = some (fl, Γ') ∧
  ∀ σ' H' B' W', Ev H B W H' B' W' → Ste F H' B' W' σ' Γ' → σ'.length = n → Agr as σ σ' → FEnd F H W H' B' W' σ' D fl

def SS (X : Cx) (st : Stmt) (as : As) (f : SemS) : Prop := ∀ F : Fx, F.K = X.K → PS X st (tK F X.N.length as f)
def SSs (X : Cx) (st : List Stmt) (as : As) (f : SemS) : Prop := ∀ F : Fx, F.K = X.K → PSs X st (tK F X.N.length as f)
theorem simp' {X : Cx} {e : Stmt} {t t' : TS} (h : PS X e t) (i : ∀ D σ H, t' D σ H → t D σ H) : PS X e t' := ⟨fun pins s σ H D I q => h.run pins s σ H D I (i D σ H q)⟩
theorem ssimp {X : Cx} {e : List Stmt} {t t' : TS} (h : PSs X e t) (i : ∀ D σ H, t' D σ H → t D σ H) : PSs X e t' := ⟨fun pins s σ H D I q => h.run pins s σ H D I (i D σ H q)⟩
theorem Agr.refl {as : As} {σ : Sg} : Agr as σ σ := fun _ _ => rfl
theorem Agr.trans {as bs : As} {σ σ1 σ2 : Sg} (h : Agr as σ σ1) (k : Agr bs σ1 σ2) : Agr (fun j => as j || bs j) σ σ2 := fun j hj => by
  rw [Bool.or_eq_false_iff] at hj
  exact (k j hj.2).trans (h j hj.1)
theorem Agr.left {as bs : As} {σ σ1 : Sg} (h : Agr as σ σ1) : Agr (fun j => as j || bs j) σ σ1 := fun j hj => by
  rw [Bool.or_eq_false_iff] at hj
  exact h j hj.1
theorem Agr.right {as bs : As} {σ σ1 : Sg} (h : Agr bs σ σ1) : Agr (fun j => as j || bs j) σ σ1 := fun j hj => by
  rw [Bool.or_eq_false_iff] at hj
  exact h j hj.2
theorem FEnd.base {F : Fx} {H0 H H' : Hp} {B0 W0 B W B' W' : Ad} {σ' : Sg} {D : Ends} {fl : Fl} (E : Ev H0 B0 W0 H B W) (h : FEnd F H0 W0 H' B' W' σ' D fl) : FEnd F H W H' B' W' σ' D fl := by
  cases fl with
  | nx => exact h
  | bk => exact h
  | ct => exact h
  | rt c => exact fun v V => h v (V.base E)
section
variable {X : Cx} {st : Stmt} {sts : List Stmt} {e a b : Expr} {f g : SemS} {fe : Sem1} {fb : SemB} {as bs : As} {pos : Pos}
def cNil : SemS := fun Γ => some (.nx, Γ)
def cSeq (f g : SemS) : SemS := fun Γ => match f Γ with
  | some (.nx, Γ1) => g Γ1
  | some (fl, Γ1) => some (fl, Γ1)
  | none => none
def aNo : As := fun _ => false
def aOne (i : Nat) : As := fun j => j == i
def aOr (a b : As) : As := fun j => a j || b j
theorem ss_nil : SSs X [] aNo cNil := fun F hF => ssimp pss_nil fun D σ H ⟨hl, Γ, B, W, fl, Γ', S, e, q⟩ => by
  cases e
  exact q σ H B W (Ev.refl _ _ _) S hl Agr.refl
theorem ss_cons (h1 : SS X st as f) (h2 : SSs X sts bs g) : SSs X (st :: sts) (aOr as bs) (cSeq f g) := fun F hF => ssimp (pss_cons (h1 F hF) (h2 F hF)) fun D σ H ⟨hl, Γ, B, W, fl, Γ', S, e, q⟩ => by
  unfold cSeq at e
  split at e
  · rename_i Γ1 e1
    refine ⟨hl, Γ, B, W, .nx, Γ1, S, e1, fun σ1 H1 B1 W1 E1 S1 l1 A1 => ⟨l1, Γ1, B1, W1, fl, Γ', S1, e, fun σ2 H2 B2 W2 E2 S2 l2 A2 => ?_⟩⟩
    exact (q σ2 H2 B2 W2 (E1.trans E2) S2 l2 (A1.trans A2)).base E1
  · rename_i fl1 Γ1 hne e1
    cases e
    refine ⟨hl, Γ, B, W, _, _, S, e1, fun σ1 H1 B1 W1 E1 S1 l1 A1 => ?_⟩
    have q' := q σ1 H1 B1 W1 E1 S1 l1 A1.left
    cases fl with
    | nx => exact absurd rfl hne
    | bk => exact q'
    | ct => exact q'
    | rt c => exact q'
  · cases e
def cExp (f : Sem1) : SemS := fun Γ => match f Γ with
  | some (_, Γ1) => some (.nx, Γ1)
  | none => none
theorem ss_exp (h : SE X e fe) (hs : swapsWith e none pos.line X.env = pure false) : SS X (.Expr e pos) aNo (cExp fe) := fun F hF => simp' (ps_expr (h F hF) hs) fun D σ H ⟨hl, Γ, B, W, fl, Γ', S, e, q⟩ => by
  unfold cExp at e
  split at e
  · rename_i va Γ1 e1
    cases e
    exact ⟨Γ, B, W, va, _, S, e1, fun v H1 B1 W1 E1 S1 V1 => q σ H1 B1 W1 E1 S1 hl Agr.refl⟩
  · cases e
def cIf (c : SemB) (f g : SemS) : SemS := fun Γ => match c Γ with
  | some (true, Γ1) => f Γ1
  | some (false, Γ1) => g Γ1
  | none => none
theorem ss_if {c : Expr} {p q : List Stmt} (hc : ST X c fb) (ha : SSs X p as f) (hb : SSs X q bs g) : SS X (.If c p q pos) (aOr as bs) (cIf fb f g) := fun F hF => simp' (ps_if (hc F hF) (ha F hF) (hb F hF)) fun D σ H ⟨hl, Γ, B, W, fl, Γ', S, e, q⟩ => by
  unfold cIf at e
  split at e
  · rename_i Γ1 e1
    exact ⟨Γ, B, W, true, Γ1, S, e1, fun H1 B1 W1 E1 S1 => by
      refine iteT ?_
      exact ⟨hl, Γ1, B1, W1, fl, Γ', S1, e, fun σ2 H2 B2 W2 E2 S2 l2 A2 => (q σ2 H2 B2 W2 (E1.trans E2) S2 l2 A2.left).base E1⟩⟩
  · rename_i Γ1 e1
    exact ⟨Γ, B, W, false, Γ1, S, e1, fun H1 B1 W1 E1 S1 => by
      refine iteF ?_
      exact ⟨hl, Γ1, B1, W1, fl, Γ', S1, e, fun σ2 H2 B2 W2 E2 S2 l2 A2 => (q σ2 H2 B2 W2 (E1.trans E2) S2 l2 A2.right).base E1⟩⟩
  · cases e
def cBk : SemS := fun Γ => some (.bk, Γ)
def cCt : SemS := fun Γ => some (.ct, Γ)
theorem ss_bk : SS X (.Break pos) aNo cBk := fun F hF => simp' ps_break fun D σ H ⟨hl, Γ, B, W, fl, Γ', S, e, q⟩ => by
  cases e
  exact q σ H B W (Ev.refl _ _ _) S hl Agr.refl
theorem ss_ct : SS X (.Continue pos) aNo cCt := fun F hF => simp' ps_continue fun D σ H ⟨hl, Γ, B, W, fl, Γ', S, e, q⟩ => by
  cases e
  exact q σ H B W (Ev.refl _ _ _) S hl Agr.refl
theorem ss_pass : SS X (.Pass pos) aNo cNil := fun F hF => simp' ps_pass fun D σ H ⟨hl, Γ, B, W, fl, Γ', S, e, q⟩ => by
  cases e
  exact q σ H B W (Ev.refl _ _ _) S hl Agr.refl

/-- an own list leaves its slot -/
theorem Ste.move {F : Fx} {H0 H : Hp} {B0 W0 B W : Ad} {σ : Sg} {Γ : Env} {v : V} {xs : List D} {i : Nat} (S : Ste F H B W σ Γ) (E : Ev H0 B0 W0 H B W) (hv : σ[i]? = some (some v)) (hi : look Γ i = some (.O xs)) :
    ∃ W', Ev H0 B0 W0 H B W' ∧ Ste F H B W' σ (Γ.set i none) ∧ VOk F H0 W0 H B W' σ (.val (.O xs)) v := by
  obtain ⟨R, h1, h2⟩ := S.hold
  obtain ⟨v', e', ⟨p, vs, e1, e2, l, r⟩, nd, nb, hw⟩ := h1 i _ hi
  rw [hv] at e'; cases e'
  have hp : p ∈ R i := by simp [e2]
  have wp : W p := hw rfl p hp
  have w' : Wl F H B (fun q => W q ∧ q ≠ p) := ⟨fun q b z => S.wl.bw q b z.1, S.wl.bt, fun q z => S.wl.wt q z.1, fun q z y => S.wl.pw q z y.1, S.wl.pt, fun q z => ⟨fun y => (S.wl.lw q z).1 y.1, (S.wl.lw q z).2⟩⟩
  have kk : Kp H B H B := ⟨fun _ h => h, fun _ _ _ h => h, fun _ _ h => h, fun _ _ _ h => h⟩
  refine ⟨fun q => W q ∧ q ≠ p, ⟨E.bsub, E.bnew, fun q z => E.wsub q z.1, E.stay⟩, ?_, [p], ⟨p, vs, e1, rfl, l, r⟩, by simp, fun x hx => ?_⟩
  · refine S.put i none [] w' kk (fun _ _ _ z => z) (fun _ _ _ z => z) (fun R' g1 g2 j c q hji hj hq => ?_) fun c hc => by cases hc
    obtain ⟨v2, a1, ⟨p2, vs2, ev2, eR2, _⟩, _⟩ := g1 i _ hi
    rw [hv] at a1; cases a1
    rw [e1] at ev2; cases ev2
    obtain ⟨v3, b1, b2, b3, b4, b5⟩ := g1 j c hj
    exact ⟨(b4 q hq).1, fun z => ⟨z, fun y => hji (g2 j i q (by rw [hj]; rfl) (by rw [hi]; rfl) hq (by rw [eR2, y]; exact List.mem_singleton.mpr rfl))⟩, fun _ z => z, by simp⟩
  · rw [List.mem_singleton.mp hx]
    exact ⟨(nb p hp).1, fun z => z.2 rfl, (nb p hp).2, fun z => (S.wl.lw p z).1 wp, (E.wsub p wp).symm⟩
/-- return e; pin: the slot in front is a caller's own list -/
def cRet (pin : Bool) (f : Sem1) : SemS := fun Γ => match f Γ with
  | some (.slot i, Γ1) => match look Γ1 i with
    | some (.F a) => some (.rt (.F a), Γ1)
    | some (.O xs) => if (pin && i == 0) = true then none else some (.rt (.O xs), Γ1.set i none)
    | _ => none
  | some (.val c, Γ1) => if c.ret then some (.rt c, Γ1) else none
  | none => none
theorem ss_ret {pin : Bool} (h : SE X e fe) : SS X (.Return (some e) pos) aNo (cRet pin fe) := fun F hF => simp' (ps_ret (h F hF)) fun D σ H ⟨hl, Γ, B, W, fl, Γ', S, e, q⟩ => by
  unfold cRet at e
  split at e
  · rename_i i Γ1 e1
    refine ⟨Γ, B, W, .slot i, Γ1, S, e1, fun v H1 B1 W1 E1 S1 V1 => ?_⟩
    have hv : σ[i]? = some (some v) := V1
    split at e
    · rename_i a ha
      cases e
      refine q σ H1 B1 W1 E1 S1 hl Agr.refl v ?_
      obtain ⟨R, h1, _⟩ := S1.hold
      obtain ⟨v', b1, b2, _⟩ := h1 i _ ha
      rw [hv] at b1; cases b1
      exact vokD b2.2
    · rename_i xs hx
      split at e
      · cases e
      · cases e
        obtain ⟨W2, E2, S2, V2⟩ := S1.move E1 hv hx
        exact q σ H1 B1 W2 E2 S2 hl Agr.refl v V2
    · cases e
  · rename_i c Γ1 e1
    split at e
    · cases e
      exact ⟨Γ, B, W, .val c, _, S, e1, fun v H1 B1 W1 E1 S1 V1 => q σ H1 B1 W1 E1 S1 hl Agr.refl v V1⟩
    · cases e
  · cases e
def cRetN : SemS := fun Γ => some (.rt (.F .none), Γ)
theorem ss_retN : SS X (.Return none pos) aNo cRetN := fun F hF => simp' ps_retN fun D σ H ⟨hl, Γ, B, W, fl, Γ', S, e, q⟩ => by
  cases e
  exact q σ H B W (Ev.refl _ _ _) S hl Agr.refl .non (vokD rfl)
end

/-! ### targets -/
abbrev SemT := Cell → Env → Option Env
def tG (F : Fx) (n : Nat) (as : As) (g : SemT) : TG := fun v σ H Q => σ.length = n ∧ ∃ H0 B0 W0 Γ B W c Γ', Ste F H B W σ Γ ∧ Ev H0 B0 W0 H B W ∧ VOk F H0 W0 H B W σ (.val c) v ∧ g c Γ = some Γ' ∧
  ∀ σ' H' B' W', Ev H0 B0 W0 H' B' W' → Ste F H' B' W' σ' Γ' → σ'.length = n → Agr as σ σ' → Q σ' H'
def SG (X : Cx) (tg : Expr) (as : As) (g : SemT) : Prop := ∀ F : Fx, F.K = X.K → PG X tg (tG F X.N.length as g)
abbrev SemTs := List D → Env → Option Env
def tGs (F : Fx) (n : Nat) (as : As) (g : SemTs) : TGs := fun vs σ H Q => σ.length = n ∧ ∃ Γ B W ds Γ', Ste F H B W σ Γ ∧ Rps F.K H B ds vs ∧ g ds Γ = some Γ' ∧
  ∀ σ' H' B' W', Ev H B W H' B' W' → Ste F H' B' W' σ' Γ' → σ'.length = n → Agr as σ σ' → Q σ' H'
def SGs (X : Cx) (tg : List Expr) (as : As) (g : SemTs) : Prop := ∀ F : Fx, F.K = X.K → PGs X tg (tGs F X.N.length as g)
theorem gimp {X : Cx} {e : Expr} {t t' : TG} (h : PG X e t) (i : ∀ v σ H Q, t' v σ H Q → t v σ H Q) : PG X e t' := ⟨fun pins s σ H v u Q I r q => h.run pins s σ H v u Q I r (i v σ H Q q)⟩
theorem gsimp {X : Cx} {e : List Expr} {t t' : TGs} (h : PGs X e t) (i : ∀ v σ H Q, t' v σ H Q → t v σ H Q) : PGs X e t' := ⟨fun pins s σ H v u Q I r q => h.run pins s σ H v u Q I r (i v σ H Q q)⟩
theorem pg_or {X : Cx} {e : Expr} {t t' : TG} (h : PG X e t) (h' : PG X e t') : PG X e (fun v σ H Q => t v σ H Q ∨ t' v σ H Q) := ⟨fun pins s σ H v u Q I r q => q.elim (h.run pins s σ H v u Q I r) (h'.run pins s σ H v u Q I r)⟩
section
variable {X : Cx} {tg e o ix : Expr} {tgs : List Expr} {g : SemT} {gs : SemTs} {fe fi : Sem1} {as bs : As} {i k : Nat} {x : Str} {p pos : Pos}
def gNm (i : Nat) : SemT := fun c Γ => some (Γ.set i (some c))
theorem sg_nm (hN : X.N.Nodup) (hi : X.N[i]? = some x) (hx : Loc X.env.scope x) (hf : X.fn x = true ∨ X.env.scope.names.lookup x = some .local) : SG X (.Name x p) (aOne i) (gNm i) := fun F hF => gimp (pg_name hN hi hx hf) fun v σ H Q ⟨hl, H0, B0, W0, Γ, B, W, c, Γ', S, E, V', e, q⟩ => by
  cases e
  obtain ⟨W', E', S'⟩ := S.lay E V' i (by rw [hl]; exact (List.getElem?_eq_some_iff.mp hi).1)
  refine q _ H B W' E' S' (by rw [List.length_set]; exact hl) fun j hj => ?_
  rw [List.getElem?_set_ne]
  intro z
  subst z
  simp [aOne] at hj
def gsNil : SemTs := fun ds Γ => match ds with
  | [] => some Γ
  | _ => none
def gsCons (g : SemT) (gs : SemTs) : SemTs := fun ds Γ => match ds with
  | [] => none
  | d :: ds => match g (.F d) Γ with
    | some Γ1 => gs ds Γ1
    | none => none
theorem sgs_nil : SGs X [] aNo gsNil := fun F hF => gsimp pgs_nil fun vs σ H Q ⟨hl, Γ, B, W, ds, Γ', S, r, e, q⟩ => by
  unfold gsNil at e
  split at e
  · cases e
    exact ⟨r, q σ H B W (Ev.refl _ _ _) S hl Agr.refl⟩
  · cases e
theorem sgs_cons (h1 : SG X tg as g) (h2 : SGs X tgs bs gs) (hs : (assignEach (tg :: tgs) X.env).map (·.2) = assign tg X.env :: (assignEach tgs X.env).map (·.2)) : SGs X (tg :: tgs) (aOr as bs) (gsCons g gs) :=
  fun F hF => gsimp (pgs_cons (h1 F hF) (h2 F hF) hs) fun vs σ H Q ⟨hl, Γ, B, W, ds, Γ', S, r, e, q⟩ => by
    unfold gsCons at e
    split at e
    · cases e
    · rename_i d ds'
      split at e
      · rename_i Γ1 e1
        obtain ⟨v, vr, ev, r1, r2⟩ := r
        refine ⟨v, vr, ev, hl, H, B, W, Γ, B, W, .F d, Γ1, S, Ev.refl _ _ _, vokD r1, e1, fun σ1 H1 B1 W1 E1 S1 l1 A1 => ⟨l1, Γ1, B1, W1, ds', Γ', S1, r2.keep (E1.kp S.wl), e, fun σ2 H2 B2 W2 E2 S2 l2 A2 => ?_⟩⟩
        exact q σ2 H2 B2 W2 (E1.trans E2) S2 l2 (A1.trans A2)
      · cases e
/-- (a, b, ..) = a tuple or list of that length -/
def gTp (n : Nat) (gs : SemTs) : SemT := fun c Γ => match c.pv with
  | .tuple ds => if ds.length = n then gs ds Γ else none
  | .list ds => if ds.length = n then gs ds Γ else none
  | _ => none
theorem sg_tp {k : Nat} (hc : X.calm = true) (h : SGs X tgs as gs) (hn : (assignEach tgs X.env).length = tgs.length) (hst : (assignEach tgs X.env).findIdx? (·.1) = none) : SG X (.Tuple tgs k p) as (gTp tgs.length gs) :=
  fun F hF => gimp (pg_or (pg_tup (n := tgs.length) hc (h F hF) hn hst) (pg_unl (n := tgs.length) hc (h F hF) hn hst)) fun v σ H Q ⟨hl, H0, B0, W0, Γ, B, W, c, Γ', S, E, V', e, q⟩ => by
    have px : Pk F.K H B v c.pv := by
      obtain ⟨R, hh, _⟩ := V'
      exact hh.pk
    unfold gTp at e
    rw [← hF]
    split at e
    · rename_i ds hd
      rw [hd] at px
      split at e
      · rename_i hlen
        obtain ⟨a, xs, e1, s1, r1⟩ := px
        exact .inl ⟨a, xs, e1, s1, by rw [← r1.length]; exact hlen, hl, Γ, B, W, ds, Γ', S, r1, e, fun σ' H' B' W' E' S' l' A' => q σ' H' B' W' (E.trans E') S' l' A'⟩
      · cases e
    · rename_i ds hd
      rw [hd] at px
      split at e
      · rename_i hlen
        obtain ⟨a, xs, e1, s1, r1⟩ := px
        exact .inr ⟨a, xs, e1, .inl (.inl s1), by rw [← r1.length]; exact hlen, hl, Γ, B, W, ds, Γ', S, r1, e, fun σ' H' B' W' E' S' l' A' => q σ' H' B' W' (E.trans E') S' l' A'⟩
      · cases e
    · cases e
/-- x[e] = .. of an own list -/
def gIx (i : Nat) (f : Sem1) : SemT := fun c Γ => match (Vw.val c).fz Γ with
  | some (d, _) => match look Γ i with
    | some (.O _) => match f Γ with
      | some (va, Γ1) => match va.pv Γ1, look Γ1 i with
        | some (.int k), some (.O xs) => match ixN xs.length k with
          | some j => some (Γ1.set i (some (.O (xs.set j d))))
          | none => none
        | _, _ => none
      | none => none
    | _ => none
  | none => none
theorem fz_val {c : Cell} {Γ : Env} {d : D} {Γ' : Env} (h : (Vw.val c).fz Γ = some (d, Γ')) : Γ' = Γ := by
  unfold Vw.fz Vw.take at h
  cases c with
  | F a => cases h; rfl
  | O a => cases h; rfl
  | K a => cases h
  | M a => cases h
theorem sg_ix (hN : X.N[i]? = some x) (hv : Vis X.env.scope x) (hx : okName x = true) (hi : SE X ix fi)
    (ha : ∀ v, assign (.Subscript (.Name x p) ix pos) X.env v = (do
      let ov ← eval (.Name x p) X.env |> holding [v]
      let iv ← holding [v, ov] (eval ix X.env)
      standAt pos
      holding [v, ov, iv] (setItem ov iv v)
      release [v, ov, iv] [])) : SG X (.Subscript (.Name x p) ix pos) aNo (gIx i fi) := fun F hF => gimp (pg_sub (pe_rcv (p := p) hN hv hx) (hi F hF) set_list ha) fun v σ H Q ⟨hl, H0, B0, W0, Γ, B, W, c, Γ', S, E, V', e, q⟩ => by
  unfold gIx at e
  split at e
  · rename_i d Γ0 e0
    have hz := fz_val e0
    subst hz
    split at e
    · rename_i xs0 h0
      split at e
      · rename_i va Γ1 e1
        split at e
        · rename_i kk xs p1 h1
          split at e
          · rename_i j hj
            cases e
            obtain ⟨u, hu⟩ := ste_v S h0
            obtain ⟨B2, W2, E2, S2, rd⟩ := S.fz E V' e0
            refine ⟨u, hu, _, B2, W2, va, Γ1, S2, e1, fun y H3 B3 W3 E3 S3 V3 => ?_⟩
            obtain ⟨pp, vs, e2, l2, r2, go⟩ := S3.own h1 hu
            have rd3 : Rp F.K H3 B3 d v := rd.keep (E3.kp S2.wl)
            obtain ⟨E4, S4⟩ := go _ _ (r2.set rd3 j)
            exact ⟨pp, vs, kk, j, e2, S3.pv V3 p1, l2, by rw [← r2.length]; exact hj, q σ _ B3 W3 ((E2.trans E3).trans E4) S4 hl Agr.refl⟩
          · cases e
        · cases e
      · cases e
    · cases e
  · cases e
/-- target = e -/
def cAsg (f : Sem1) (g : SemT) : SemS := fun Γ => match f Γ with
  | some (va, Γ1) => match va.take Γ1 with
    | some (c, Γ2) => match g c Γ2 with
      | some Γ3 => some (.nx, Γ3)
      | none => none
    | none => none
  | none => none
theorem red_asg {F : Fx} {n : Nat} {D : Ends} {σ : Sg} {H : Hp} (h : tK F n as (cAsg fe g) D σ H) : tAsg (tS F fe) (tG F n as g) D σ H := by
  obtain ⟨hl, Γ, B, W, fl, Γ', S, e, q⟩ := h
  unfold cAsg at e
  split at e
  · rename_i va Γ1 e1
    split at e
    · rename_i c Γ2 e2
      split at e
      · rename_i Γ3 e3
        cases e
        refine ⟨Γ, B, W, va, Γ1, S, e1, fun v H1 B1 W1 E1 S1 V1 => ?_⟩
        obtain ⟨B2, W2, E2, S2, V2⟩ := S1.take E1 V1 e2
        exact ⟨hl, H, B, W, Γ2, B2, W2, c, _, S2, E2, V2, e3, fun σ' H' B' W' E' S' l' A' => q σ' H' B' W' E' S' l' A'⟩
      · cases e
    · cases e
  · cases e
theorem ss_asg (he : SE X e fe) (hg : SG X tg as g) (hs : swapsWithSole [tg] e pos.line X.env = pure false) (hw : swappedStores [tg] e X.env = pure none) (h1 : (assignEach [tg] X.env).map (·.2) = [assign tg X.env]) : SS X (.Assign [tg] e pos) as (cAsg fe g) :=
  fun F hF => simp' (ps_asg (he F hF) (hg F hF) hs hw h1) fun D σ H h => red_asg h
theorem ss_set (hN : X.N.Nodup) (hi : X.N[i]? = some x) (hx : Loc X.env.scope x) (hf : X.fn x = true ∨ X.env.scope.names.lookup x = some .local) (he : SE X e fe) (hs : swapsWith e (some (.Name x p)) pos.line X.env = pure false) : SS X (.Assign [.Name x p] e pos) (aOne i) (cAsg fe (gNm i)) :=
  fun F hF => by
    refine simp' (ps_set hN hi hx (he F hF) hs hf) fun D σ H h => ?_
    have h' := red_asg h
    obtain ⟨Γ, B, W, va, Γ1, S, e1, q⟩ := h'
    refine ⟨Γ, B, W, va, Γ1, S, e1, fun v H1 B1 W1 E1 S1 V1 => ?_⟩
    obtain ⟨hl, H0, B0, W0, Γ2, B2, W2, c, Γ3, S2, E2, V2, e2, q2⟩ := q v H1 B1 W1 E1 S1 V1
    cases e2
    obtain ⟨W', E', S'⟩ := S2.lay E2 V2 i (by rw [hl]; exact (List.getElem?_eq_some_iff.mp hi).1)
    refine q2 _ H1 B2 W' E' S' (by rw [List.length_set]; exact hl) fun j hj => ?_
    rw [List.getElem?_set_ne]
    intro z
    subst z
    simp [aOne] at hj
/-- (a, b, ..) = e: the items of a tuple or list are told, it stays as it is -/
def tpD (k : Nat) (gs : SemTs) (d : D) (Γ : Env) : Option Env := match d with
  | .tuple ds => if ds.length = k then gs ds Γ else none
  | .list ds => if ds.length = k then gs ds Γ else none
  | _ => none
def cUnp (k : Nat) (gs : SemTs) (f : Sem1) : SemS := fun Γ => match f Γ with
  | some (va, Γ1) => match va.pv Γ1 with
    | some d => match tpD k gs d Γ1 with
      | some Γ2 => some (.nx, Γ2)
      | none => none
    | none => none
  | none => none
def tU (F : Fx) (n : Nat) (as : As) (k : Nat) (gs : SemTs) : TG := fun v σ H Q => σ.length = n ∧ ∃ Γ B W d Γ', Ste F H B W σ Γ ∧ Pk F.K H B v d ∧ tpD k gs d Γ = some Γ' ∧
  ∀ σ' H' B' W', Ev H B W H' B' W' → Ste F H' B' W' σ' Γ' → σ'.length = n → Agr as σ σ' → Q σ' H'
theorem sg_unp {k : Nat} (hc : X.calm = true) (h : SGs X tgs as gs) (hn : (assignEach tgs X.env).length = tgs.length) (hst : (assignEach tgs X.env).findIdx? (·.1) = none) : ∀ F : Fx, F.K = X.K → PG X (.Tuple tgs k p) (tU F X.N.length as tgs.length gs) :=
  fun F hF => gimp (pg_or (pg_tup (n := tgs.length) hc (h F hF) hn hst) (pg_unl (n := tgs.length) hc (h F hF) hn hst)) fun v σ H Q ⟨hl, Γ, B, W, d, Γ', S, px, e, q⟩ => by
    unfold tpD at e
    rw [← hF]
    split at e
    · rename_i ds
      split at e
      · rename_i hlen
        obtain ⟨a, xs, e1, s1, r1⟩ := px
        exact .inl ⟨a, xs, e1, s1, by rw [← r1.length]; exact hlen, hl, Γ, B, W, ds, Γ', S, r1, e, q⟩
      · cases e
    · rename_i ds
      split at e
      · rename_i hlen
        obtain ⟨a, xs, e1, s1, r1⟩ := px
        exact .inr ⟨a, xs, e1, .inl (.inl s1), by rw [← r1.length]; exact hlen, hl, Γ, B, W, ds, Γ', S, r1, e, q⟩
      · cases e
    · cases e
theorem ss_unp {k : Nat} (he : SE X e fe) (hc : X.calm = true) (h : SGs X tgs as gs) (hn : (assignEach tgs X.env).length = tgs.length) (hst : (assignEach tgs X.env).findIdx? (·.1) = none)
    (hs : swapsWithSole [.Tuple tgs k p] e pos.line X.env = pure false) (hw : swappedStores [.Tuple tgs k p] e X.env = pure none) (h1 : (assignEach [.Tuple tgs k p] X.env).map (·.2) = [assign (.Tuple tgs k p) X.env]) : SS X (.Assign [.Tuple tgs k p] e pos) as (cUnp tgs.length gs fe) :=
  fun F hF => simp' (ps_asg (he F hF) (sg_unp hc h hn hst F hF) hs hw h1) fun D σ H ⟨hl, Γ, B, W, fl, Γ', S, ee, q⟩ => by
    unfold cUnp at ee
    split at ee
    · rename_i va Γ1 e1
      split at ee
      · rename_i d p1
        split at ee
        · rename_i Γ2 e2
          cases ee
          exact ⟨Γ, B, W, va, Γ1, S, e1, fun v H1 B1 W1 E1 S1 V1 => ⟨hl, Γ1, B1, W1, d, _, S1, S1.pv V1 p1, e2, fun σ' H' B' W' E' S' l' A' => q σ' H' B' W' (E1.trans E') S' l' A'⟩⟩
        · cases ee
      · cases ee
    · cases ee
/-- a = b = e: what is told is frozen -/
def cAsg2 (f : Sem1) (i j : Nat) : SemS := fun Γ => match sFz f Γ with
  | some (d, Γ1) => some (.nx, (Γ1.set i (some (.F d))).set j (some (.F d)))
  | none => none
theorem ss_asg2 {x y : Str} {p1 p2 : Pos} {j : Nat} (hN : X.N.Nodup) (hi : X.N[i]? = some x) (hj : X.N[j]? = some y) (hx : Loc X.env.scope x) (hy : Loc X.env.scope y) (hf : X.fn x = true ∨ X.env.scope.names.lookup x = some .local) (hg : X.fn y = true ∨ X.env.scope.names.lookup y = some .local) (he : SE X e fe) (hw : swappedStores [.Name x p1, .Name y p2] e X.env = pure none) :
    SS X (.Assign [.Name x p1, .Name y p2] e pos) (aOr (aOne i) (aOne j)) (cAsg2 fe i j) :=
  fun F hF => simp' (ps_asg2 (he F hF) (pg_name hN hi hx hf) (pg_name hN hj hy hg) rfl hw) fun D σ H ⟨hl, Γ, B, W, fl, Γ', S, ee, q⟩ => by
    unfold cAsg2 at ee
    split at ee
    · rename_i d Γ1 e1
      cases ee
      refine red_fz S e1 fun v H1 B1 W1 E1 S1 r1 => ?_
      obtain ⟨W2, E2, S2⟩ := S1.lay (Ev.refl _ _ _) (vokD r1) i (by rw [hl]; exact (List.getElem?_eq_some_iff.mp hi).1)
      obtain ⟨W3, E3, S3⟩ := S2.lay (Ev.refl _ _ _) (vokD r1) j (by rw [List.length_set, hl]; exact (List.getElem?_eq_some_iff.mp hj).1)
      refine q _ H1 B1 W3 ((E1.trans E2).trans E3) S3 (by rw [List.length_set, List.length_set]; exact hl) fun k hk => ?_
      have hk' : ¬ i = k ∧ ¬ j = k := by
        simp only [aOr, aOne, Bool.or_eq_false_iff, beq_eq_false_iff_ne] at hk
        exact ⟨fun z => hk.1 z.symm, fun z => hk.2 z.symm⟩
      rw [List.getElem?_set_ne hk'.2, List.getElem?_set_ne hk'.1]
    · cases ee
/-- a, b = x, y -/
def cPar (i j : Nat) (f : SemA) : SemS := fun Γ => match f Γ with
  | some ([d, e], Γ1) => some (.nx, (Γ1.set i (some (.F d))).set j (some (.F e)))
  | _ => none
def cPar3 (i j k : Nat) (f : SemA) : SemS := fun Γ => match f Γ with
  | some ([d, e, c], Γ1) => some (.nx, ((Γ1.set i (some (.F d))).set j (some (.F e))).set k (some (.F c)))
  | _ => none
theorem Ste.layD {F : Fx} {H : Hp} {B W : Ad} {σ : Sg} {Γ : Env} {d : D} {v : V} (S : Ste F H B W σ Γ) (r : Rp F.K H B d v) (i : Nat) (hs : i < σ.length) : ∃ W', Ev H B W H B W' ∧ Ste F H B W' (σ.set i (some v)) (Γ.set i (some (.F d))) :=
  S.lay (Ev.refl _ _ _) (vokD r) i hs
theorem ss_par {a b : Expr} {fa : SemA} {y : Str} {j : Nat} {px py pt : Pos} {kt k2 : Nat} {pt2 : Pos} (hc : X.calm = true) (hN : X.N.Nodup) (hi : X.N[i]? = some x) (hj : X.N[j]? = some y) (hij : i ≠ j)
    (hx : X.env.scope.names.lookup x = some .local) (hy : X.env.scope.names.lookup y = some .local) (ha : SA X [a, b] fa)
    (hw : swappedStores [.Tuple [.Name x px, .Name y py] kt pt] (.Tuple [a, b] k2 pt2) X.env = pure (some [x, y]))
    (hs : swapsWithSole [.Tuple [.Name x px, .Name y py] kt pt] (.Tuple [a, b] k2 pt2) pos.line X.env = pure false) :
    SS X (.Assign [.Tuple [.Name x px, .Name y py] kt pt] (.Tuple [a, b] k2 pt2) pos) (aOr (aOne i) (aOne j)) (cPar i j fa) :=
  fun F hF => simp' (ps_par hc hN hi hj hij hx hy (ha F hF) hw hs) fun D σ H ⟨hl, Γ, B, W, fl, Γ', S, e, q⟩ => by
    unfold cPar at e
    split at e
    · rename_i d e' Γ1 e1
      cases e
      refine ⟨Γ, B, W, _, Γ1, S, e1, fun vs H1 B1 W1 E1 S1 r1 => ?_⟩
      obtain ⟨v, _, rfl, rv, w, _, rfl, rw', rfl⟩ := r1
      have li : i < σ.length := by rw [hl]; exact (List.getElem?_eq_some_iff.mp hi).1
      have lj : j < σ.length := by rw [hl]; exact (List.getElem?_eq_some_iff.mp hj).1
      obtain ⟨W2, E2, S2⟩ := S1.layD rv i li
      obtain ⟨W3, E3, S3⟩ := S2.layD rw' j (by rw [List.length_set]; exact lj)
      refine ⟨v, w, rfl, q _ H1 B1 W3 ((E1.trans E2).trans E3) S3 (by simp [hl]) fun l hll => ?_⟩
      simp only [aOr, aOne, Bool.or_eq_false_iff, beq_eq_false_iff_ne] at hll
      rw [List.getElem?_set_ne (Ne.symm hll.2), List.getElem?_set_ne (Ne.symm hll.1)]
    · cases e
theorem ss_par3 {a b c : Expr} {fa : SemA} {y z : Str} {j l : Nat} {px py pz pt : Pos} {kt k2 : Nat} {pt2 : Pos} (hc : X.calm = true) (hN : X.N.Nodup) (hi : X.N[i]? = some x) (hj : X.N[j]? = some y) (hl' : X.N[l]? = some z) (hij : i ≠ j) (hil : i ≠ l) (hjl : j ≠ l)
    (hx : X.env.scope.names.lookup x = some .local) (hy : X.env.scope.names.lookup y = some .local) (hz : X.env.scope.names.lookup z = some .local) (ha : SA X [a, b, c] fa)
    (hw : swappedStores [.Tuple [.Name x px, .Name y py, .Name z pz] kt pt] (.Tuple [a, b, c] k2 pt2) X.env = pure (some [x, y, z]))
    (hs : swapsWithSole [.Tuple [.Name x px, .Name y py, .Name z pz] kt pt] (.Tuple [a, b, c] k2 pt2) pos.line X.env = pure false) :
    SS X (.Assign [.Tuple [.Name x px, .Name y py, .Name z pz] kt pt] (.Tuple [a, b, c] k2 pt2) pos) (aOr (aOr (aOne i) (aOne j)) (aOne l)) (cPar3 i j l fa) :=
  fun F hF => simp' (L2.ps_par3 hc hN hi hj hl' hij hil hjl hx hy hz (ha F hF) hw hs) fun D σ H ⟨hl, Γ, B, W, fl, Γ', S, e, q⟩ => by
    unfold cPar3 at e
    split at e
    · rename_i d e' c' Γ1 e1
      cases e
      refine ⟨Γ, B, W, _, Γ1, S, e1, fun vs H1 B1 W1 E1 S1 r1 => ?_⟩
      obtain ⟨v, _, rfl, rv, w, _, rfl, rw', u, _, rfl, ru, rfl⟩ := r1
      have li : i < σ.length := by rw [hl]; exact (List.getElem?_eq_some_iff.mp hi).1
      have lj : j < σ.length := by rw [hl]; exact (List.getElem?_eq_some_iff.mp hj).1
      have ll : l < σ.length := by rw [hl]; exact (List.getElem?_eq_some_iff.mp hl').1
      obtain ⟨W2, E2, S2⟩ := S1.layD rv i li
      obtain ⟨W3, E3, S3⟩ := S2.layD rw' j (by rw [List.length_set]; exact lj)
      obtain ⟨W4, E4, S4⟩ := S3.layD ru l (by simp; exact ll)
      refine ⟨v, w, u, rfl, q _ H1 B1 W4 (((E1.trans E2).trans E3).trans E4) S4 (by simp [hl]) fun m hm => ?_⟩
      simp only [aOr, aOne, Bool.or_eq_false_iff, beq_eq_false_iff_ne] at hm
      rw [List.getElem?_set_ne (Ne.symm hm.2), List.getElem?_set_ne (Ne.symm hm.1.2), List.getElem?_set_ne (Ne.symm hm.1.1)]
    · cases e
end
end G

namespace G
open PySem PySem.Spec PyProof.Rows L2

/-! ### locks -/
def Fx.lk (F : Fx) (p : Addr) : Fx := { F with L := fun q => F.L q ∨ q = p }
section
variable {F : Fx} {H0 H H' : Hp} {B0 W0 B W B' W' : Ad} {σ σ' : Sg} {Γ Γ' : Env} {v : V} {c : Cell} {d : D} {i : Nat} {p : Addr}
theorem Ste.lock {xs : List D} (S : Ste F H B W σ Γ) (hv : σ[i]? = some (some v)) (hi : look Γ i = some (.O xs)) :
    ∃ p vs, v = .ref p ∧ H p = some (.lst vs) ∧ Rps F.K H B xs vs ∧ W p ∧ ¬ F.P p ∧ ¬ F.L p ∧ Ste (F.lk p) H B (fun q => W q ∧ q ≠ p) σ (Γ.set i (some (.M xs))) := by
  obtain ⟨R, h1, h2⟩ := S.hold
  obtain ⟨v', a1, a2, a3, a4, a5⟩ := h1 i _ hi
  rw [hv] at a1; cases a1
  obtain ⟨p, vs, e1, e2, l, r⟩ := a2
  have hp : p ∈ R i := by simp [e2]
  have wp : W p := a5 rfl p hp
  have nl : ¬ F.L p := fun z => (S.wl.lw p z).1 wp
  refine ⟨p, vs, e1, l, r, wp, (a4 p hp).2, nl, ?_, R, fun j c hj => ?_, fun j l q hj hl => ?_⟩
  · refine ⟨fun q b z => S.wl.bw q b z.1, S.wl.bt, fun q z => S.wl.wt q z.1, fun q y z => S.wl.pw q y z.1, S.wl.pt, fun q z => ?_⟩
    rcases z with z | z
    · exact ⟨fun y => (S.wl.lw q z).1 y.1, (S.wl.lw q z).2⟩
    · subst z
      exact ⟨fun y => y.2 rfl, (a4 q hp).1, _, l⟩
  · rcases look_set_some hj with ⟨e, hc⟩ | ⟨e, hc⟩
    · subst e
      cases hc
      exact ⟨v, hv, ⟨p, vs, e1, e2, .inr rfl, l, r⟩, a3, a4, fun z => by cases z⟩
    · obtain ⟨w, b1, b2, b3, b4, b5⟩ := h1 j c hc
      refine ⟨w, b1, ?_, b3, b4, fun z q hq => ⟨b5 z q hq, fun y => e ?_⟩⟩
      · cases c with
        | F a => exact b2
        | O ys => exact b2
        | K ys => exact b2
        | M ys => obtain ⟨p', vs', f1, f2, f3, f4⟩ := b2; exact ⟨p', vs', f1, f2, .inl f3, f4⟩
      · subst y
        exact h2 j i q (by rw [hc]; rfl) (by rw [hi]; rfl) hq hp
  · have go : ∀ j, (look (Γ.set i (some (Cell.M xs))) j).isSome → (look Γ j).isSome := fun j hj => by
      cases ej : look (Γ.set i (some (Cell.M xs))) j with
      | none => rw [ej] at hj; cases hj
      | some c =>
        rcases look_set_some ej with ⟨e, hc⟩ | ⟨e, hc⟩
        · rw [e, hi]; rfl
        · rw [hc]; rfl
    exact h2 j l q (go j hj) (go l hl)
theorem Ste.unlock {xs : List D} (S : Ste (F.lk p) H B W σ Γ) (nl : ¬ F.L p) (hv : σ[i]? = some (some (.ref p))) (hi : look Γ i = some (.M xs)) :
    Ste F H B (fun q => W q ∨ q = p) σ (Γ.set i (some (.O xs))) := by
  obtain ⟨R, h1, h2⟩ := S.hold
  obtain ⟨v', a1, a2, a3, a4, a5⟩ := h1 i _ hi
  rw [hv] at a1; cases a1
  obtain ⟨p', vs, e1, e2, ll, l, r⟩ := a2
  cases e1
  have hp : p ∈ R i := by simp [e2]
  refine ⟨?_, R, fun j c hj => ?_, fun j l q hj hl => ?_⟩
  · refine ⟨fun q b z => ?_, S.wl.bt, fun q z => ?_, fun q y z => ?_, S.wl.pt, fun q z => ⟨fun y => ?_, (S.wl.lw q (.inl z)).2⟩⟩
    · rcases z with z | z
      · exact S.wl.bw q b z
      · subst z; exact (a4 q hp).1 b
    · rcases z with z | z
      · exact S.wl.wt q z
      · subst z; exact ⟨_, l, trivial⟩
    · rcases z with z | z
      · exact S.wl.pw q y z
      · subst z; exact (a4 q hp).2 y
    · rcases y with y | y
      · exact (S.wl.lw q (.inl z)).1 y
      · subst y; exact nl z
  · rcases look_set_some hj with ⟨e, hc⟩ | ⟨e, hc⟩
    · subst e
      cases hc
      exact ⟨_, hv, ⟨p, vs, rfl, e2, l, r⟩, a3, a4, fun _ q hq => .inr (by rw [e2] at hq; exact List.mem_singleton.mp hq)⟩
    · obtain ⟨w, b1, b2, b3, b4, b5⟩ := h1 j c hc
      refine ⟨w, b1, ?_, b3, b4, fun z q hq => .inl (b5 z q hq)⟩
      cases c with
      | F a => exact b2
      | O ys => exact b2
      | K ys => exact b2
      | M ys =>
        obtain ⟨p', vs', f1, f2, f3, f4⟩ := b2
        refine ⟨p', vs', f1, f2, ?_, f4⟩
        rcases f3 with f3 | f3
        · exact f3
        · subst f3
          exact absurd (h2 j i p' (by rw [hc]; rfl) (by rw [hi]; rfl) (by simp [f2]) hp) e
  · have go : ∀ j, (look (Γ.set i (some (Cell.O xs))) j).isSome → (look Γ j).isSome := fun j hj => by
      cases ej : look (Γ.set i (some (Cell.O xs))) j with
      | none => rw [ej] at hj; cases hj
      | some c =>
        rcases look_set_some ej with ⟨e, hc⟩ | ⟨e, hc⟩
        · rw [e, hi]; rfl
        · rw [hc]; rfl
    exact h2 j l q (go j hj) (go l hl)
theorem Ev.lock (e : Ev H B (fun q => W q ∧ q ≠ p) H' B' W') (w : W p) : Ev H B W H' B' (fun q => W' q ∨ q = p) :=
  ⟨e.bsub, fun q z => (e.bnew q z).imp id (.imp id (·.1)), fun q z => z.elim (fun z => (e.wsub q z).imp (·.1) id) (fun z => .inl (z ▸ w)), fun q o h n => e.stay q o h fun z => n z.1⟩
theorem Ev.lock0 : Ev H B W H B (fun q => W q ∧ q ≠ p) := ⟨fun _ z => z, fun _ z => .inl z, fun _ z => .inl z.1, fun _ _ h _ => h⟩
theorem VOk.lock (h : VOk (F.lk p) H (fun q => W q ∧ q ≠ p) H' B' W' σ (.val c) v) (hc : c.ret = true) : VOk F H W H' B' (fun q => W' q ∨ q = p) σ (.val c) v := by
  obtain ⟨R, h1, h2, h3⟩ := h
  refine ⟨R, ?_, h2, fun q hq => ?_⟩
  · cases c with
    | F a => exact h1
    | O a => exact h1
    | K a => cases hc
    | M a => cases hc
  · obtain ⟨a, b, c, d, e⟩ := h3 q hq
    exact ⟨a, fun z => z.elim b fun z => d (.inr z), c, fun z => d (.inl z), e.imp id (·.1)⟩
theorem FEnd.ofLock {D : Ends} {fl : Fl} (h : FEnd F H W H' B' (fun q => W' q ∨ q = p) σ' D fl) (hr : ∀ c, fl = .rt c → c.ret = true) : FEnd (F.lk p) H (fun q => W q ∧ q ≠ p) H' B' W' σ' D fl := by
  cases fl with
  | nx => exact h
  | bk => exact h
  | ct => exact h
  | rt c => exact fun v V => h v (V.lock (hr c rfl))
end

/-! ### what is walked -/
/-- nothing but one new object -/
def Nw (H H' : Hp) : Prop := H' = H ∨ ∃ T o, H T = none ∧ H' = upd H T o
theorem Nw.ev {H H' : Hp} {B W : Ad} (h : Nw H H') : Ev H B W H' B W := by
  rcases h with h | ⟨T, o, h, e⟩
  · subst h; exact Ev.refl _ _ _
  · subst e; exact Ev.new h
theorem Nw.wl {F : Fx} {H H' : Hp} {B W : Ad} (h : Nw H H') (w : Wl F H B W) : Wl F H' B W := by
  rcases h with h | ⟨T, o, h, e⟩
  · subst h; exact w
  · subst e; exact w.new h
theorem Nw.ste {F : Fx} {H H' : Hp} {B W : Ad} {σ : Sg} {Γ : Env} (h : Nw H H') (S : Ste F H B W σ Γ) : Ste F H' B W σ Γ := by
  rcases h with h | ⟨T, o, h, e⟩
  · subst h; exact S
  · subst e; exact S.new h
def Feeds (F : Fx) (Hb : Hp) (Bb Wb : Ad) (J : It) (n : Nat) (dat : Nat → D) : Prop :=
  ∀ i H B W, Ev Hb Bb Wb H B W → Wl F H B W → (n ≤ i → J.stop i H) ∧ (i < n → J.go i H ∧ ∀ x H', J.yld i H x H' → Nw H H' ∧ Rp F.K H' B (dat i) x)
section
variable {F : Fx} {Hb H : Hp} {Bb Wb : Ad} {a : Addr} {ds : List D} {vs : List V}
theorem Feeds.list (w : Wl F Hb Bb Wb) (l : Hb a = some (.lst vs)) (nw : ¬ Wb a) (r : Rps F.K Hb Bb ds vs) : Feeds F Hb Bb Wb (Itl F.K a) ds.length (fun i => ds.getD i .none) := fun i H B W E w' => by
  have l' := E.stay a _ l nw
  have r' := r.keep (E.kp w)
  refine ⟨fun h => ⟨vs, .of l', by rw [← r.length]; exact h⟩, fun h => ?_⟩
  obtain ⟨v, e, rv⟩ := r'.get (List.getElem?_eq_getElem h)
  refine ⟨⟨vs, v, .of l', e⟩, fun x H' ⟨eH, y⟩ => ?_⟩
  subst eH
  have := y vs (.of l')
  rw [e] at this; cases this
  refine ⟨.inl rfl, ?_⟩
  show Rp F.K H' B (ds.getD i .none) v
  rw [List.getD_eq_getElem?_getD, List.getElem?_eq_getElem h]
  exact rv
theorem Feeds.tup (w : Wl F Hb Bb Wb) (l : SqT F.K Hb a vs) (r : Rps F.K Hb Bb ds vs) : Feeds F Hb Bb Wb (Itt F.K a) ds.length (fun i => ds.getD i .none) := fun i H B W E w' => by
  have l' := (E.kp w).sqt l
  have r' := r.keep (E.kp w)
  refine ⟨fun h => ⟨vs, l', by rw [← r.length]; exact h⟩, fun h => ?_⟩
  obtain ⟨v, e, rv⟩ := r'.get (List.getElem?_eq_getElem h)
  refine ⟨⟨vs, v, l', e⟩, fun x H' ⟨eH, y⟩ => ?_⟩
  subst eH
  have := y vs l'
  rw [e] at this; cases this
  refine ⟨.inl rfl, ?_⟩
  show Rp F.K H' B (ds.getD i .none) v
  rw [List.getD_eq_getElem?_getD, List.getElem?_eq_getElem h]
  exact rv
theorem Feeds.rng (lo : Int) (n : Nat) : Feeds F Hb Bb Wb (Itr lo n) n (fun i => .int (lo + (i : Nat) * 1)) := fun i H B W E w' => by
  refine ⟨fun h => h, fun h => ⟨h, fun x H' ⟨eH, y⟩ => ?_⟩⟩
  subst eH y
  refine ⟨.inl rfl, ?_⟩
  show V.int _ = V.int _
  rw [Int.mul_one]
theorem Feeds.rngC (lo c : Int) (n : Nat) : Feeds F Hb Bb Wb (Itc lo c n) n (fun i => .int (lo + (i : Nat) * c)) := fun i H B W E w' =>
  ⟨fun h => h, fun h => ⟨h, fun x H' ⟨eH, y⟩ => by subst eH y; exact ⟨.inl rfl, rfl⟩⟩⟩
def chars (x : Str) : List D := x.cps.toList.map fun c => .str ⟨#[c]⟩
theorem Feeds.str (x : Str) : Feeds F Hb Bb Wb (Its x) (chars x).length (fun i => (chars x).getD i .none) := fun i H B W E w' => by
  have hl : (chars x).length = x.cps.size := by unfold chars; simp
  refine ⟨fun h => by rw [hl] at h; exact h, fun h => ⟨by rw [hl] at h; exact h, fun y H' ⟨eH, c, e, ey⟩ => ?_⟩⟩
  subst eH ey
  refine ⟨.inl rfl, ?_⟩
  show Rp _ _ _ ((chars x).getD i .none) _
  have e' : x.cps.toList[i]? = some c := by simpa using e
  unfold chars
  rw [List.getD_eq_getElem?_getD, List.getElem?_map, e']
  rfl
end

inductive Src where
  | sl (i : Nat) (xs : List D)
  | li (ds : List D)
  | rg (lo c : Int) (n : Nat)
abbrev SemR := Env → Option (Src × Env)
def Src.n : Src → Nat
  | .sl _ xs => xs.length
  | .li xs => xs.length
  | .rg _ _ n => n
def Src.dat : Src → Nat → D
  | .sl _ xs => fun i => xs.getD i .none
  | .li xs => fun i => xs.getD i .none
  | .rg lo c _ => fun i => .int (lo + (i : Nat) * c)
def SrcOk (F : Fx) (H : Hp) (B W : Ad) (σ : Sg) (Γ : Env) (src : Src) (J : It) : Prop := match src with
  | .sl i xs => look Γ i = some (.O xs) ∧ ∃ p, σ[i]? = some (some (.ref p)) ∧ J = Itl F.K p
  | s => Feeds F H B W J s.n s.dat
def tR (F : Fx) (f : SemR) : TI := fun σ H R => ∃ Γ B W src Γ', Ste F H B W σ Γ ∧ f Γ = some (src, Γ') ∧ ∀ J H' B' W', Ev H B W H' B' W' → Ste F H' B' W' σ Γ' → SrcOk F H' B' W' σ Γ' src J → R J H'
def SR (X : Cx) (tg it : Expr) (f : SemR) : Prop := ∀ F : Fx, F.K = X.K → PI X tg it (tR F f)
theorem iimp {X : Cx} {tg e : Expr} {t t' : TI} (h : PI X tg e t) (i : ∀ σ H R, t' σ H R → t σ H R) : PI X tg e t' := ⟨fun pins s σ H R I q => h.run pins s σ H R I (i σ H R q)⟩
theorem pi_or {X : Cx} {tg e : Expr} {t t' : TI} (h : PI X tg e t) (h' : PI X tg e t') : PI X tg e (fun σ H R => t σ H R ∨ t' σ H R) := ⟨fun pins s σ H R I q => q.elim (h.run pins s σ H R I) (h'.run pins s σ H R I)⟩
def seqOf : D → Option (List D)
  | .list xs => some xs
  | .tuple xs => some xs
  | .str x => some (chars x)
  | _ => none
def rSq (f : Sem1) : SemR := fun Γ => match f Γ with
  | some (.slot i, Γ1) => match look Γ1 i with
    | some (.O xs) => some (.sl i xs, Γ1)
    | some c => (seqOf c.pv).map fun ds => (.li ds, Γ1)
    | none => none
  | some (.val c, Γ1) => match (Vw.val c).fz Γ1 with
    | some (d, _) => (seqOf d).map fun ds => (.li ds, Γ1)
    | none => none
  | none => none
section
variable {X : Cx} {tg e a b c : Expr} {f : Sem1} {pos p : Pos}
theorem sr_sq (h : SE X e f) : SR X tg e (rSq f) := fun F hF => iimp (pi_or (pi_list (h F hF)) (pi_or (pi_tup (h F hF)) (pi_str (h F hF)))) fun σ H R ⟨Γ, B, W, src, Γ', S, e, q⟩ => by
  -- which of the three is known before
  have key : ∃ vw Γ1, f Γ = some (vw, Γ1) ∧ ((∀ v H1 B1 W1, Ev H B W H1 B1 W1 → Ste F H1 B1 W1 σ Γ1 → VOk F H W H1 B1 W1 σ vw v → ∃ a, v = .ref a ∧ (∃ xs, SqL F.K H1 a xs) ∧ R (Itl F.K a) H1) ∨
      (∀ v H1 B1 W1, Ev H B W H1 B1 W1 → Ste F H1 B1 W1 σ Γ1 → VOk F H W H1 B1 W1 σ vw v → ∃ a, v = .ref a ∧ (∃ xs, SqT F.K H1 a xs) ∧ R (Itt F.K a) H1) ∨
      (∀ v H1 B1 W1, Ev H B W H1 B1 W1 → Ste F H1 B1 W1 σ Γ1 → VOk F H W H1 B1 W1 σ vw v → ∃ x, v = .str x ∧ R (Its x) H1)) := by
    have pick : ∀ {d : D} {ds : List D} (vw : Vw) (Γ1 : Env), seqOf d = some ds → (∀ v H1 B1 W1, Ev H B W H1 B1 W1 → Ste F H1 B1 W1 σ Γ1 → VOk F H W H1 B1 W1 σ vw v →
        ∃ B2 W2, Ev H B W H1 B2 W2 ∧ Ste F H1 B2 W2 σ Γ1 ∧ Pk F.K H1 B2 v d ∧ (∀ zs, d = .list zs → ∀ a, v = .ref a → ¬ W2 a)) →
        (∀ J H1 B2 W2, Ev H B W H1 B2 W2 → Ste F H1 B2 W2 σ Γ1 → Feeds F H1 B2 W2 J (Src.li ds).n (Src.li ds).dat → R J H1) →
        ((∀ v H1 B1 W1, Ev H B W H1 B1 W1 → Ste F H1 B1 W1 σ Γ1 → VOk F H W H1 B1 W1 σ vw v → ∃ a, v = .ref a ∧ (∃ xs, SqL F.K H1 a xs) ∧ R (Itl F.K a) H1) ∨
        (∀ v H1 B1 W1, Ev H B W H1 B1 W1 → Ste F H1 B1 W1 σ Γ1 → VOk F H W H1 B1 W1 σ vw v → ∃ a, v = .ref a ∧ (∃ xs, SqT F.K H1 a xs) ∧ R (Itt F.K a) H1) ∨
        (∀ v H1 B1 W1, Ev H B W H1 B1 W1 → Ste F H1 B1 W1 σ Γ1 → VOk F H W H1 B1 W1 σ vw v → ∃ x, v = .str x ∧ R (Its x) H1)) := by
      intro d ds vw Γ1 e g q
      cases d with
      | none => cases e
      | bool b => cases e
      | int b => cases e
      | dict b => cases e
      | str x =>
        cases e
        refine .inr (.inr fun v H1 B1 W1 E1 S1 V1 => ?_)
        obtain ⟨B2, W2, E2, S2, h2, h3⟩ := g v H1 B1 W1 E1 S1 V1
        cases h2
        exact ⟨x, rfl, q _ _ _ _ E2 S2 (Feeds.str x)⟩
      | tuple xs =>
        cases e
        refine .inr (.inl fun v H1 B1 W1 E1 S1 V1 => ?_)
        obtain ⟨B2, W2, E2, S2, h2, h3⟩ := g v H1 B1 W1 E1 S1 V1
        obtain ⟨a, vs, e1, s1, r1⟩ := h2
        exact ⟨a, e1, ⟨vs, s1⟩, q _ _ _ _ E2 S2 (Feeds.tup S2.wl s1 r1)⟩
      | list xs =>
        cases e
        refine .inl fun v H1 B1 W1 E1 S1 V1 => ?_
        obtain ⟨B2, W2, E2, S2, h2, h3⟩ := g v H1 B1 W1 E1 S1 V1
        obtain ⟨a, vs, e1, s1, r1⟩ := h2
        exact ⟨a, e1, ⟨vs, .of s1⟩, q _ _ _ _ E2 S2 (Feeds.list S2.wl s1 (h3 _ rfl a e1) r1)⟩
    unfold rSq at e
    split at e
    · rename_i i Γ1 e1
      refine ⟨_, Γ1, e1, ?_⟩
      split at e
      · rename_i xs hx
        cases e
        refine .inl fun v H1 B1 W1 E1 S1 V1 => ?_
        obtain ⟨R', h1, _⟩ := S1.hold
        obtain ⟨v', b1, ⟨p, vs, b2, b3, b4, b5⟩, _⟩ := h1 i _ hx
        have V1' : σ[i]? = some (some v) := V1
        rw [V1'] at b1; cases b1
        subst b2
        exact ⟨p, rfl, ⟨vs, .of b4⟩, q _ _ _ _ E1 S1 ⟨hx, p, V1', rfl⟩⟩
      · rename_i c hno hc
        cases hs : seqOf c.pv with
        | none => rw [hs] at e; cases e
        | some ds =>
          rw [hs] at e
          cases e
          refine pick _ _ hs (fun v H1 B1 W1 E1 S1 V1 => ⟨B1, W1, E1, S1, ?_, ?_⟩) (fun J H1 B2 W2 E2 S2 f => q J H1 B2 W2 E2 S2 f)
          · exact S1.pv V1 (by simp only [Vw.pv, Vw.cell, hc])
          · intro zs hd a ea wa
            subst ea
            obtain ⟨R', h1, _⟩ := S1.hold
            obtain ⟨v', b1, b2, _⟩ := h1 i _ hc
            have V1' : σ[i]? = some (some (.ref a)) := V1
            rw [V1'] at b1; cases b1
            cases c with
            | O ys => exact hno ys rfl
            | F d =>
              cases (show d = .list zs from hd)
              obtain ⟨_, a', vs', e', ⟨hB, hL⟩, _⟩ := b2
              cases e'
              exact S1.wl.bw _ hB wa
            | K ys => obtain ⟨p', vs', e', _, hP, _⟩ := b2; cases e'; exact S1.wl.pw _ hP wa
            | M ys => obtain ⟨p', vs', e', _, hL, _⟩ := b2; cases e'; exact (S1.wl.lw _ hL).1 wa
      · cases e
    · rename_i c Γ1 e1
      refine ⟨_, Γ1, e1, ?_⟩
      split at e
      · rename_i d Γ2 e2
        have hz := fz_val e2
        subst hz
        cases hs : seqOf d with
        | none => rw [hs] at e; cases e
        | some ds =>
          rw [hs] at e
          cases e
          refine pick _ _ hs (fun v H1 B1 W1 E1 S1 V1 => ?_) (fun J H1 B2 W2 E2 S2 f => q J H1 B2 W2 E2 S2 f)
          obtain ⟨B2, W2, E2, S2, rd⟩ := S1.fz E1 V1 e2
          refine ⟨B2, W2, E2, S2, rd.pk, fun zs hd a ea wa => ?_⟩
          subst ea hd
          obtain ⟨a', vs', e', ⟨hB, hL⟩, _⟩ := rd
          cases e'
          exact S2.wl.bw _ hB wa
      · cases e
    · cases e
  obtain ⟨vw, Γ1, e1, h⟩ := key
  rcases h with h | h | h
  · exact .inl ⟨Γ, B, W, vw, Γ1, S, e1, fun v H1 B1 W1 E1 S1 V1 => hF ▸ h v H1 B1 W1 E1 S1 V1⟩
  · exact .inr (.inl ⟨Γ, B, W, vw, Γ1, S, e1, fun v H1 B1 W1 E1 S1 V1 => hF ▸ h v H1 B1 W1 E1 S1 V1⟩)
  · exact .inr (.inr ⟨Γ, B, W, vw, Γ1, S, e1, fun v H1 B1 W1 E1 S1 V1 => h v H1 B1 W1 E1 S1 V1⟩)
end

/-! ### for -/
def forN (g : SemT) (b : SemS) (dat : Nat → D) : Nat → Nat → SemS
  | 0, _, Γ => some (.nx, Γ)
  | k + 1, i, Γ => match g (.F (dat i)) Γ with
    | none => none
    | some Γ1 => match b Γ1 with
      | some (.nx, Γ2) => forN g b dat k (i + 1) Γ2
      | some (.ct, Γ2) => forN g b dat k (i + 1) Γ2
      | some (.bk, Γ2) => some (.nx, Γ2)
      | some (.rt c, Γ2) => some (.rt c, Γ2)
      | none => none
/-- over a list -/
def forL (g : SemT) (b : SemS) : List D → SemS
  | [], Γ => some (.nx, Γ)
  | d :: ds, Γ => match g (.F d) Γ with
    | none => none
    | some Γ1 => match b Γ1 with
      | some (.nx, Γ2) => forL g b ds Γ2
      | some (.ct, Γ2) => forL g b ds Γ2
      | some (.bk, Γ2) => some (.nx, Γ2)
      | some (.rt c, Γ2) => some (.rt c, Γ2)
      | none => none
/-- lo, lo + c, .. (n of them) -/
def forR (g : SemT) (b : SemS) (c : Int) : Nat → Int → SemS
  | 0, _, Γ => some (.nx, Γ)
  | k + 1, lo, Γ => match g (.F (.int lo)) Γ with
    | none => none
    | some Γ1 => match b Γ1 with
      | some (.nx, Γ2) => forR g b c k (lo + c) Γ2
      | some (.ct, Γ2) => forR g b c k (lo + c) Γ2
      | some (.bk, Γ2) => some (.nx, Γ2)
      | some (.rt c, Γ2) => some (.rt c, Γ2)
      | none => none
theorem forN_li (g : SemT) (b : SemS) (ds : List D) : ∀ (k i : Nat) (Γ : Env), i + k = ds.length → forN g b (fun i => ds.getD i .none) k i Γ = forL g b (ds.drop i) Γ := by
  intro k
  induction k with
  | zero => intro i Γ h; rw [List.drop_eq_nil_of_le (by omega)]; rfl
  | succ k ih =>
    intro i Γ h
    have hi : i < ds.length := by omega
    rw [List.drop_eq_getElem_cons hi]
    unfold forN forL
    rw [List.getD_eq_getElem?_getD, List.getElem?_eq_getElem hi]
    dsimp only [Option.getD]
    split
    · rfl
    · split <;> first | rfl | exact ih _ _ (by omega)
theorem forN_rg (g : SemT) (b : SemS) (lo c : Int) : ∀ (k i : Nat) (Γ : Env), forN g b (fun i => .int (lo + (i : Nat) * c)) k i Γ = forR g b c k (lo + (i : Nat) * c) Γ := by
  intro k
  induction k with
  | zero => intro i Γ; rfl
  | succ k ih =>
    intro i Γ
    unfold forN forR
    have e : ∀ Γ, forN g b (fun i => .int (lo + (i : Nat) * c)) k (i + 1) Γ = forR g b c k (lo + (i : Nat) * c + c) Γ := fun Γ => by
      rw [ih, show lo + ((i + 1 : Nat) : Int) * c = lo + (i : Nat) * c + c by rw [Int.natCast_add, Int.add_mul]; omega]
    split
    · rfl
    · split <;> first | rfl | exact e _
def Src.loop (g : SemT) (b : SemS) : Src → SemS
  | .sl _ xs => forL g b xs
  | .li xs => forL g b xs
  | .rg lo c n => forR g b c n lo
theorem Src.loop_eq (g : SemT) (b : SemS) (s : Src) (Γ : Env) : s.loop g b Γ = forN g b s.dat s.n 0 Γ := by
  cases s with
  | sl i xs => exact (forN_li g b xs _ 0 Γ (by simp [Src.n])).symm
  | li xs => exact (forN_li g b xs _ 0 Γ (by simp [Src.n])).symm
  | rg lo c n => show forR g b c n lo Γ = _; unfold Src.dat Src.n; dsimp only; rw [forN_rg]; simp
/-- the loop's end: break is over -/
theorem forN_fl (g : SemT) (b : SemS) (dat : Nat → D) : ∀ (k i : Nat) (Γ : Env) (fl : Fl) (Γ' : Env), forN g b dat k i Γ = some (fl, Γ') → fl = .nx ∨ ∃ c, fl = .rt c := by
  intro k
  induction k with
  | zero => intro i Γ fl Γ' h; cases h; exact .inl rfl
  | succ k ih =>
    intro i Γ fl Γ' h
    unfold forN at h
    split at h
    · cases h
    · split at h
      · exact ih _ _ _ _ h
      · exact ih _ _ _ _ h
      · cases h; exact .inl rfl
      · cases h; exact .inr ⟨_, rfl⟩
      · cases h
section
variable {F : Fx} {Hb H : Hp} {Bb Wb : Ad} {σ : Sg} {Γ Γ' : Env} {J : It} {n N : Nat} {dat : Nat → D} {g : SemT} {b : SemS} {ag ab : As} {fl : Fl} {D : Ends} {tg : TG} {tb : TS}
theorem for_core (fd : Feeds F Hb Bb Wb J n dat) (S : Ste F Hb Bb Wb σ Γ) (hl : σ.length = N) (e : forN g b dat n 0 Γ = some (fl, Γ'))
    (hg : ∀ v σ H Q, tG F N ag g v σ H Q → tg v σ H Q) (hb : ∀ D σ H, tK F N ab b D σ H → tb D σ H)
    (q : ∀ σ' H' B' W', Ev Hb Bb Wb H' B' W' → Ste F H' B' W' σ' Γ' → σ'.length = N → Agr (aOr ag ab) σ σ' → FEnd F Hb Wb H' B' W' σ' D fl) :
    ∃ W : Nat → Nat → Sg → Hp → Prop, (∃ m, W 0 m σ Hb) ∧ ∀ i m σ H, W i m σ H →
      (J.stop i H ∧ D.nx σ H) ∨ (J.go i H ∧ ∃ N : Sg → Hp → Prop, (∀ σ' H', N σ' H' → ∃ m', m' < m ∧ W (i + 1) m' σ' H') ∧ ∀ x H', J.yld i H x H' → tg x σ H' fun σ2 H2 => tb { D with nx := N, ct := N, bk := D.nx } σ2 H2) := by
  let P : Nat → Sg → Hp → Prop := fun i σ' H' => ∃ B' W' Γi, Ev Hb Bb Wb H' B' W' ∧ Ste F H' B' W' σ' Γi ∧ σ'.length = N ∧ Agr (aOr ag ab) σ σ' ∧ forN g b dat (n - i) i Γi = some (fl, Γ')
  refine ⟨fun i m σ' H' => m = n - i ∧ i ≤ n ∧ P i σ' H', ⟨n, by simp, Nat.zero_le _, Bb, Wb, Γ, Ev.refl _ _ _, S, hl, Agr.refl, e⟩, ?_⟩
  rintro i m σ1 H1 ⟨rfl, hi, B1, W1, Γ1, E1, S1, l1, A1, e1⟩
  obtain ⟨f1, f2⟩ := fd i H1 B1 W1 E1 S1.wl
  by_cases hlt : i < n
  · obtain ⟨go, yl⟩ := f2 hlt
    refine .inr ⟨go, P (i + 1), fun σ' H' p => ⟨n - (i + 1), by omega, rfl, hlt, p⟩, fun x H2 y => ?_⟩
    obtain ⟨nw, rx⟩ := yl x H2 y
    rw [show n - i = (n - (i + 1)) + 1 by omega] at e1
    unfold forN at e1
    split at e1
    · cases e1
    rename_i Γ2 eg
    have E2 := E1.trans (nw.ev (B := B1) (W := W1))
    refine hg x σ1 H2 _ ⟨l1, H2, B1, W1, Γ1, B1, W1, _, Γ2, nw.ste S1, Ev.refl _ _ _, vokD rx, eg, fun σ3 H3 B3 W3 E3 S3 l3 A3 => hb _ _ _ ?_⟩
    have E3' := E2.trans E3
    have A13 : Agr (aOr ag ab) σ σ3 := fun j hj => by
      have hj' := hj
      unfold aOr at hj'
      rw [Bool.or_eq_false_iff] at hj'
      exact (A3 j hj'.1).trans (A1 j hj)
    have step : ∀ {σ4 : Sg}, Agr ab σ3 σ4 → Agr (aOr ag ab) σ σ4 := fun {σ4} A4 j hj => by
      have hj' := hj
      unfold aOr at hj'
      rw [Bool.or_eq_false_iff] at hj'
      exact (A4 j hj'.2).trans (A13 j hj)
    split at e1
    · rename_i Γ3 eb
      exact ⟨l3, Γ2, B3, W3, .nx, Γ3, S3, eb, fun σ4 H4 B4 W4 E4 S4 l4 A4 => ⟨B4, W4, Γ3, E3'.trans E4, S4, l4, step A4, e1⟩⟩
    · rename_i Γ3 eb
      exact ⟨l3, Γ2, B3, W3, .ct, Γ3, S3, eb, fun σ4 H4 B4 W4 E4 S4 l4 A4 => ⟨B4, W4, Γ3, E3'.trans E4, S4, l4, step A4, e1⟩⟩
    · rename_i Γ3 eb
      cases e1
      exact ⟨l3, Γ2, B3, W3, .bk, _, S3, eb, fun σ4 H4 B4 W4 E4 S4 l4 A4 => q σ4 H4 B4 W4 (E3'.trans E4) S4 l4 (step A4)⟩
    · rename_i c Γ3 eb
      cases e1
      exact ⟨l3, Γ2, B3, W3, .rt c, _, S3, eb, fun σ4 H4 B4 W4 E4 S4 l4 A4 => FEnd.base (fl := .rt c) E3' (q σ4 H4 B4 W4 (E3'.trans E4) S4 l4 (step A4))⟩
    · cases e1
  · have hi' : i = n := by omega
    subst hi'
    rw [Nat.sub_self] at e1
    cases e1
    exact .inl ⟨f1 (Nat.le_refl _), q σ1 H1 B1 W1 E1 S1 l1 A1⟩
end
def Fl.ok : Fl → Bool
  | .rt c => c.ret
  | _ => true
def cFor (as : As) (fI : SemR) (g : SemT) (b : SemS) : SemS := fun Γ => match fI Γ with
  | none => none
  | some (.sl i xs, Γ1) => if as i = true then none else match forL g b xs (Γ1.set i (some (.M xs))) with
    | none => none
    | some (fl, Γ2) => match look Γ2 i with
      | some (.M ys) => if fl.ok = true then some (fl, Γ2.set i (some (.O ys))) else none
      | _ => none
  | some (s, Γ1) => s.loop g b Γ1
section
variable {X : Cx} {tg it : Expr} {body : List Stmt} {fI : SemR} {g : SemT} {b : SemS} {ag ab : As} {pos : Pos}
theorem ss_for (hp : PassesOwn (model X.prog X.w) X.A X.env X.xe) (hc : X.calm = true) (hi : SR X tg it fI) (hg : SG X tg ag g) (hb : SSs X body ab b)
    (hs : ∀ x, foldedSetIterable it X.env x = pure x) : SS X (.For tg it body [] pos) (aOr ag ab) (cFor (aOr ag ab) fI g b) := fun F hF => by
  have pg : PG X tg (fun v σ H Q => ∃ F', F'.K = X.K ∧ tG F' X.N.length ag g v σ H Q) := ⟨fun pins s σ H v u Q I r ⟨F', hF', q⟩ => (hg F' hF').run pins s σ H v u Q I r q⟩
  have pb : PSs X body (fun D σ H => ∃ F', F'.K = X.K ∧ tK F' X.N.length ab b D σ H) := ⟨fun pins s σ H D I ⟨F', hF', q⟩ => (hb F' hF').run pins s σ H D I q⟩
  refine simp' (ps_for hp hc (hi F hF) pg pb hs) fun D σ H ⟨hl, Γ, B, W, fl, Γ', S, e, q⟩ => ?_
  unfold cFor at e
  split at e
  · cases e
  · rename_i i xs Γ1 e1
    refine ⟨Γ, B, W, _, Γ1, S, e1, fun J H1 B1 W1 E1 S1 ⟨hx, p, hv, hJ⟩ => ?_⟩
    subst hJ
    split at e
    · cases e
    rename_i nas
    split at e
    · cases e
    rename_i fl' Γ2 e2
    split at e
    · rename_i ys hy
      split at e
      · rename_i hok
        cases e
        obtain ⟨p', vs, ep, l, r, wp, np, nl, S2⟩ := S1.lock hv hx
        cases ep
        have r2 : Rps (F.lk p).K H1 B1 xs vs := r
        refine for_core (F := F.lk p) (tg := fun v σ H Q => ∃ F', F'.K = X.K ∧ tG F' X.N.length ag g v σ H Q) (tb := fun D σ H => ∃ F', F'.K = X.K ∧ tK F' X.N.length ab b D σ H) (Feeds.list S2.wl l (fun z => z.2 rfl) r2) S2 hl ((forN_li g b xs xs.length 0 _ (Nat.zero_add _)).trans e2) (fun v σ H Q h => ⟨F.lk p, hF, h⟩) (fun D σ H h => ⟨F.lk p, hF, h⟩) fun σ3 H3 B3 W3 E3 S3 l3 A3 => ?_
        have hv3 : σ3[i]? = some (some (.ref p)) := by
          rw [A3 i (by simpa using nas)]; exact hv
        have S4 := S3.unlock nl hv3 hy
        have E4 := Ev.lock E3 wp
        exact FEnd.ofLock ((q σ3 H3 B3 _ (E1.trans E4) S4 l3 A3).base E1) fun c hc => by subst hc; exact hok
      · cases e
    · cases e
  · rename_i s Γ1 hns e1
    refine ⟨Γ, B, W, s, Γ1, S, e1, fun J H1 B1 W1 E1 S1 ok => ?_⟩
    have fd : Feeds F H1 B1 W1 J s.n s.dat := by
      cases s with
      | sl i xs => exact absurd rfl (hns i xs)
      | li xs => exact ok
      | rg lo c n => exact ok
    rw [Src.loop_eq] at e
    exact for_core (tg := fun v σ H Q => ∃ F', F'.K = X.K ∧ tG F' X.N.length ag g v σ H Q) (tb := fun D σ H => ∃ F', F'.K = X.K ∧ tK F' X.N.length ab b D σ H) fd S1 hl e (fun v σ H Q h => ⟨F, hF, h⟩) (fun D σ H h => ⟨F, hF, h⟩) fun σ3 H3 B3 W3 E3 S3 l3 A3 => (q σ3 H3 B3 W3 (E1.trans E3) S3 l3 A3).base E1

/-! ### while -/
def whF (c : SemB) (b : SemS) : Nat → SemS
  | 0, _ => none
  | k + 1, Γ => match c Γ with
    | none => none
    | some (false, Γ1) => some (.nx, Γ1)
    | some (true, Γ1) => match b Γ1 with
      | some (.nx, Γ2) => whF c b k Γ2
      | some (.ct, Γ2) => whF c b k Γ2
      | some (.bk, Γ2) => some (.nx, Γ2)
      | some (.rt c, Γ2) => some (.rt c, Γ2)
      | none => none
theorem ss_while {c : Expr} {fc : SemB} {k : Nat} (hp : PassesOwn (model X.prog X.w) X.A X.env X.xe) (hc : ST X c fc) (hb : SSs X body ab b) : SS X (.While c body [] pos) ab (whF fc b k) := fun F hF =>
  simp' (ps_while hp (hc F hF) (hb F hF)) fun D σ H ⟨hl, Γ, B, W, fl, Γ', S, e, q⟩ => by
    let P : Nat → Sg → Hp → Prop := fun m σ' H' => ∃ B' W' Γi, Ev H B W H' B' W' ∧ Ste F H' B' W' σ' Γi ∧ σ'.length = X.N.length ∧ Agr ab σ σ' ∧ whF fc b m Γi = some (fl, Γ')
    refine ⟨P, ⟨k, B, W, Γ, Ev.refl _ _ _, S, hl, Agr.refl, e⟩, ?_⟩
    rintro m σ1 H1 ⟨B1, W1, Γ1, E1, S1, l1, A1, e1⟩
    cases m with
    | zero => cases e1
    | succ m =>
      unfold whF at e1
      split at e1
      · cases e1
      · rename_i Γ2 ec
        cases e1
        refine ⟨Γ1, B1, W1, false, _, S1, ec, fun H2 B2 W2 E2 S2 => ?_⟩
        refine iteF ?_
        exact q σ1 H2 B2 W2 (E1.trans E2) S2 l1 A1
      · rename_i Γ2 ec
        refine ⟨Γ1, B1, W1, true, _, S1, ec, fun H2 B2 W2 E2 S2 => ?_⟩
        refine iteT ?_
        refine ⟨P m, fun σ' H' p => ⟨m, Nat.lt_succ_self _, p⟩, ?_⟩
        have E3 := E1.trans E2
        have step : ∀ {σ4 : Sg}, Agr ab σ1 σ4 → Agr ab σ σ4 := fun {σ4} A4 j hj => (A4 j hj).trans (A1 j hj)
        split at e1
        · rename_i Γ3 eb
          exact ⟨l1, Γ2, B2, W2, .nx, Γ3, S2, eb, fun σ4 H4 B4 W4 E4 S4 l4 A4 => ⟨B4, W4, Γ3, E3.trans E4, S4, l4, step A4, e1⟩⟩
        · rename_i Γ3 eb
          exact ⟨l1, Γ2, B2, W2, .ct, Γ3, S2, eb, fun σ4 H4 B4 W4 E4 S4 l4 A4 => ⟨B4, W4, Γ3, E3.trans E4, S4, l4, step A4, e1⟩⟩
        · rename_i Γ3 eb
          cases e1
          exact ⟨l1, Γ2, B2, W2, .bk, _, S2, eb, fun σ4 H4 B4 W4 E4 S4 l4 A4 => q σ4 H4 B4 W4 (E3.trans E4) S4 l4 (step A4)⟩
        · rename_i c Γ3 eb
          cases e1
          exact ⟨l1, Γ2, B2, W2, .rt c, _, S2, eb, fun σ4 H4 B4 W4 E4 S4 l4 A4 => FEnd.base (fl := .rt c) E3 (q σ4 H4 B4 W4 (E3.trans E4) S4 l4 (step A4))⟩
        · cases e1
end
end G

namespace G
open PySem PySem.Spec PyProof.Rows L2

/-! ### comprehensions -/
def wipeE (vs : List Nat) (Γ : Env) : Env := vs.foldr (fun i Γ => Γ.set i none) Γ
/-- the block's own slots as they were, data only -/
def back (Γ0 : Env) : List Nat → Env → Env
  | [], Γ => Γ
  | i :: vs, Γ => (back Γ0 vs Γ).set i (match look Γ0 i with
    | some (.F a) => some (.F a)
    | _ => none)
theorem wipe_in {σ : Sg} {j : Nat} (hσ : j < σ.length) : ∀ {vs : List Nat}, j ∈ vs → (L2.wipe σ vs)[j]? = some none
  | [], z => by cases z
  | b :: us, z => by
    unfold L2.wipe
    by_cases e2 : b = j
    · subst e2; rw [List.getElem?_set_self (by rw [wipe_length]; exact hσ)]
    · rw [List.getElem?_set_ne e2]
      rcases List.mem_cons.mp z with y | y
      · exact absurd y.symm e2
      · exact wipe_in hσ y
section
variable {F : Fx} {H0 H H' : Hp} {B0 W0 B W B' W' : Ad} {σ σ' : Sg} {Γ Γ0 Γ' : Env} {v : V} {c : Cell} {d : D} {i : Nat} {p : Addr} {vs : List Nat}
theorem Ste.wipes (S : Ste F H B W σ Γ) : ∀ vs : List Nat, Ste F H B W (L2.wipe σ vs) (wipeE vs Γ)
  | [] => S
  | v :: vs => (Ste.wipes S vs).wipe1 v
theorem wipe_eq {σ σ' : Sg} {as : As} (hl : σ'.length = σ.length) (A : Agr as σ σ') (hs : ∀ j, as j = true → j ∈ vs) : L2.wipe σ' vs = L2.wipe σ vs := by
  refine List.ext_getElem? fun j => ?_
  by_cases hj : j ∈ vs
  · by_cases hσ : j < σ.length
    · rw [wipe_in hσ hj, wipe_in (by omega) hj]
    · rw [List.getElem?_eq_none (by rw [wipe_length]; omega), List.getElem?_eq_none (by rw [wipe_length]; omega)]
  · rw [wipe_out hj, wipe_out hj]
    refine A j ?_
    cases e : as j with
    | false => rfl
    | true => exact absurd (hs j e) hj
theorem wipe_wipe : L2.wipe (L2.wipe σ vs) vs = L2.wipe σ vs := by
  refine List.ext_getElem? fun j => ?_
  by_cases hj : j ∈ vs
  · by_cases hσ : j < σ.length
    · rw [wipe_in (by rw [wipe_length]; exact hσ) hj, wipe_in hσ hj]
    · rw [List.getElem?_eq_none (by rw [wipe_length, wipe_length]; omega), List.getElem?_eq_none (by rw [wipe_length]; omega)]
  · rw [wipe_out hj]
/-- the block is over -/
theorem Ste.backs (S : Ste F H B W (L2.wipe σ vs) Γ) (hv : ∀ i ∈ vs, ∀ a, look Γ0 i = some (.F a) → ∃ v, σ[i]? = some (some v) ∧ Rp F.K H B a v) : Ste F H B W σ (back Γ0 vs Γ) := by
  have S0 : Ste F H B W σ Γ := by
    obtain ⟨R, h1, h2⟩ := S.hold
    refine ⟨S.wl, R, fun j c hj => ?_, h2⟩
    obtain ⟨v, a1, a2⟩ := h1 j c hj
    exact ⟨v, (wipe_some a1).1, a2⟩
  have key : ∀ us : List Nat, (∀ i ∈ us, i ∈ vs) → Ste F H B W σ (back Γ0 us Γ) := by
    intro us
    induction us with
    | nil => intro _; exact S0
    | cons i us ih =>
      intro hu
      have S1 := ih fun j hj => hu j (List.mem_cons_of_mem _ hj)
      unfold back
      refine S1.put i _ [] S1.wl ⟨fun _ h => h, fun _ _ _ h => h, fun _ _ h => h, fun _ _ _ h => h⟩ (fun _ _ _ z => z) (fun j u e q => q) (fun R' g1 g2 j c' q e hj hq => ⟨let ⟨_, _, _, _, a4, _⟩ := g1 j c' hj; (a4 q hq).1, fun z => z, fun _ z => z, by simp⟩) fun c hc => ?_
      split at hc
      · rename_i a ha
        cases hc
        obtain ⟨v, q, r⟩ := hv i (hu i List.mem_cons_self) a ha
        exact ⟨v, q, ⟨rfl, r⟩, List.nodup_nil, (fun p hp => by cases hp), fun z => by cases z⟩
      · cases hc
  exact key vs fun _ h => h
theorem Kp.poke {xs : List V} (nb : ¬ B p) (ho : H p = some (.lst xs)) {o : HO} : Kp H B (upd H p o) B := by
  refine ⟨fun _ h => h, fun q xs b e => ?_, fun q xs e => ?_, fun q o' u e => ?_⟩
  · rw [upd_ne (show q ≠ p from fun z => nb (z ▸ b))]; exact e
  · rw [upd_ne (show q ≠ p from fun z => by subst z; rw [ho] at e; cases e)]; exact e
  · rw [upd_ne (show q ≠ p from fun z => by subst z; rw [ho] at e; cases e)]; exact e
theorem Ste.poke {xs : List V} (S : Ste F H B W σ Γ) (nb : ¬ B p) (nw : ¬ W p) (np : ¬ F.P p) (nl : ¬ F.L p) (ho : H p = some (.lst xs)) {o : HO} : Ste F (upd H p o) B W σ Γ := by
  have ne : ∀ q, (B q ∨ W q ∨ F.P q ∨ F.L q) → q ≠ p := fun q h e => by
    subst e
    exact h.elim nb fun h => h.elim nw fun h => h.elim np nl
  obtain ⟨R, h1, h2⟩ := S.hold
  refine ⟨⟨S.wl.bw, fun q z => ?_, fun q z => ?_, S.wl.pw, fun q z => ?_, fun q z => ⟨(S.wl.lw q z).1, (S.wl.lw q z).2.1, ?_⟩⟩, R, fun j c hj => ?_, h2⟩
  · rw [upd_ne (ne q (.inl z))]; exact S.wl.bt q z
  · rw [upd_ne (ne q (.inr (.inl z)))]; exact S.wl.wt q z
  · rw [upd_ne (ne q (.inr (.inr (.inl z))))]; exact S.wl.pt q z
  · rw [upd_ne (ne q (.inr (.inr (.inr z))))]; exact (S.wl.lw q z).2.2
  · obtain ⟨v, a1, a2, a3, a4, a5⟩ := h1 j c hj
    refine ⟨v, a1, a2.mono (Kp.poke nb ho) (fun q hq ys e => ?_) (fun q ys z e => ?_), a3, a4, a5⟩
    · have hne : q ≠ p := by
        rcases a2.root q hq with y | y
        · exact ne q (.inr (.inl (a5 y q hq)))
        · exact ne q (.inr (.inr (.inr y)))
      rw [upd_ne hne]; exact e
    · rw [upd_ne (ne q (.inr (.inr (.inl z))))]; exact e
/-- one more that may be written -/
theorem Ev.side (e : Ev H B W H' B' W') (hp : ∃ o, H p = some o) (nw : ¬ W p) : Ev H B (fun q => W q ∨ q = p) H' B' (fun q => W' q ∨ q = p) :=
  ⟨e.bsub, fun q z => (e.bnew q z).imp id (.imp id .inl), fun q z => z.elim (fun z => (e.wsub q z).imp .inl id) fun z => .inl (.inr z), fun q o h n => e.stay q o h fun z => n (.inl z)⟩
theorem Ev.at {o : HO} (w : W p) : Ev H B W (upd H p o) B W :=
  ⟨fun _ z => z, fun _ z => .inl z, fun _ z => .inl z, fun q u e n => by rw [upd_ne (show q ≠ p from fun z => n (z ▸ w))]; exact e⟩
theorem Ev.start {o : HO} (hp : H p = none) : Ev H B W (upd H p o) B (fun q => W q ∨ q = p) :=
  ⟨fun _ z => z, fun _ z => .inl z, fun q z => z.elim .inl fun z => .inr (z ▸ hp), fun q u e _ => by rw [upd_ne (ne_of_none e hp)]; exact e⟩
theorem Ev.drop (e : Ev H B W H' B' (fun q => W' q ∨ q = p)) : Ev H B W H' B' W' := ⟨e.bsub, e.bnew, fun q z => e.wsub q (.inl z), e.stay⟩
theorem Wl.side (w : Wl F H B W) {xs : List V} (l : H p = some (.lst xs)) (nb : ¬ B p) (np : ¬ F.P p) (nl : ¬ F.L p) : Wl F H B (fun q => W q ∨ q = p) :=
  ⟨fun q b z => z.elim (w.bw q b) fun z => nb (z ▸ b), w.bt, fun q z => z.elim (w.wt q) fun z => ⟨.lst xs, z ▸ l, trivial⟩, fun q b z => z.elim (w.pw q b) fun z => np (z ▸ b), w.pt, fun q z => ⟨fun y => y.elim (w.lw q z).1 fun y => nl (y ▸ z), (w.lw q z).2⟩⟩
end

def lcN (g : SemT) (t : SemB) (e : Sem1) (vs : List Nat) (dat : Nat → D) : Nat → Nat → Env → Option (List D × Env)
  | 0, _, Γ => some ([], Γ)
  | k + 1, i, Γ => match g (.F (dat i)) Γ with
    | none => none
    | some Γ1 => match t Γ1 with
      | none => none
      | some (false, Γ2) => lcN g t e vs dat k (i + 1) (wipeE vs Γ2)
      | some (true, Γ2) => match e Γ2 with
        | none => none
        | some (vw, Γ3) => match vw.fz Γ3 with
          | none => none
          | some (d, Γ4) => match lcN g t e vs dat k (i + 1) (wipeE vs Γ4) with
            | none => none
            | some (ds, Γ5) => some (d :: ds, Γ5)
def lcL (g : SemT) (t : SemB) (e : Sem1) (vs : List Nat) : List D → Env → Option (List D × Env)
  | [], Γ => some ([], Γ)
  | d :: ds, Γ => match g (.F d) Γ with
    | none => none
    | some Γ1 => match t Γ1 with
      | none => none
      | some (false, Γ2) => lcL g t e vs ds (wipeE vs Γ2)
      | some (true, Γ2) => match e Γ2 with
        | none => none
        | some (vw, Γ3) => match vw.fz Γ3 with
          | none => none
          | some (d, Γ4) => match lcL g t e vs ds (wipeE vs Γ4) with
            | none => none
            | some (ds, Γ5) => some (d :: ds, Γ5)
def lcR (g : SemT) (t : SemB) (e : Sem1) (vs : List Nat) (c : Int) : Nat → Int → Env → Option (List D × Env)
  | 0, _, Γ => some ([], Γ)
  | k + 1, lo, Γ => match g (.F (.int lo)) Γ with
    | none => none
    | some Γ1 => match t Γ1 with
      | none => none
      | some (false, Γ2) => lcR g t e vs c k (lo + c) (wipeE vs Γ2)
      | some (true, Γ2) => match e Γ2 with
        | none => none
        | some (vw, Γ3) => match vw.fz Γ3 with
          | none => none
          | some (d, Γ4) => match lcR g t e vs c k (lo + c) (wipeE vs Γ4) with
            | none => none
            | some (ds, Γ5) => some (d :: ds, Γ5)
theorem lcN_li (g : SemT) (t : SemB) (e : Sem1) (vs : List Nat) (ds : List D) : ∀ (k i : Nat) (Γ : Env), i + k = ds.length → lcN g t e vs (fun i => ds.getD i .none) k i Γ = lcL g t e vs (ds.drop i) Γ := by
  intro k
  induction k with
  | zero => intro i Γ h; rw [List.drop_eq_nil_of_le (by omega)]; rfl
  | succ k ih =>
    intro i Γ h
    have hi : i < ds.length := by omega
    rw [List.drop_eq_getElem_cons hi]
    unfold lcN lcL
    rw [List.getD_eq_getElem?_getD, List.getElem?_eq_getElem hi]
    dsimp only [Option.getD]
    have e' : ∀ Γ, lcN g t e vs (fun i => ds.getD i .none) k (i + 1) Γ = lcL g t e vs (ds.drop (i + 1)) Γ := fun Γ => ih _ _ (by omega)
    simp only [e']
theorem lcN_rg (g : SemT) (t : SemB) (e : Sem1) (vs : List Nat) (lo c : Int) : ∀ (k i : Nat) (Γ : Env), lcN g t e vs (fun i => .int (lo + (i : Nat) * c)) k i Γ = lcR g t e vs c k (lo + (i : Nat) * c) Γ := by
  intro k
  induction k with
  | zero => intro i Γ; rfl
  | succ k ih =>
    intro i Γ
    unfold lcN lcR
    have e' : ∀ Γ, lcN g t e vs (fun i => .int (lo + (i : Nat) * c)) k (i + 1) Γ = lcR g t e vs c k (lo + (i : Nat) * c + c) Γ := fun Γ => by
      rw [ih, show lo + ((i + 1 : Nat) : Int) * c = lo + (i : Nat) * c + c by rw [Int.natCast_add, Int.add_mul]; omega]
    simp only [e']
def Src.comp (g : SemT) (t : SemB) (e : Sem1) (vs : List Nat) : Src → Env → Option (List D × Env)
  | .sl _ xs => lcL g t e vs xs
  | .li xs => lcL g t e vs xs
  | .rg lo c n => lcR g t e vs c n lo
theorem Src.comp_eq (g : SemT) (t : SemB) (e : Sem1) (vs : List Nat) (s : Src) (Γ : Env) : s.comp g t e vs Γ = lcN g t e vs s.dat s.n 0 Γ := by
  cases s with
  | sl i xs => exact (lcN_li g t e vs xs _ 0 Γ (by simp [Src.n])).symm
  | li xs => exact (lcN_li g t e vs xs _ 0 Γ (by simp [Src.n])).symm
  | rg lo c n => show lcR g t e vs c n lo Γ = _; unfold Src.dat Src.n; dsimp only; rw [lcN_rg]; simp
section
variable {F : Fx} {H1 H : Hp} {B1 W1 : Ad} {σ : Sg} {Γ1 Γ2 : Env} {J : It} {n N : Nat} {dat : Nat → D} {g : SemT} {t : SemB} {e : Sem1} {ag : As} {vs : List Nat} {tg : TG} {tt : TT} {te : TE} {out : List D}
theorem lc_core (fd : Feeds F H1 B1 W1 J n dat) (S : Ste F H1 B1 W1 σ Γ1) (hl : σ.length = N) (hag : ∀ j, ag j = true → j ∈ vs) (hn : n ≤ LIM) (ev : lcN g t e vs dat n 0 (wipeE vs Γ1) = some (out, Γ2))
    (hg : ∀ v σ H Q, tG F N ag g v σ H Q → tg v σ H Q) (ht : ∀ σ H Q, tT F t σ H Q → tt σ H Q) (he : ∀ σ H Q, tS F e σ H Q → te σ H Q)
    {D : Addr} (hD : H1 D = none) {Qd : Hp → Prop}
    (q : ∀ H' B' W', Ev H1 B1 W1 H' B' W' → Ste F H' B' W' (L2.wipe σ vs) Γ2 → VOk F H1 W1 H' B' W' σ (.val (.O out)) (.ref D) → Qd H') :
    ∃ W : Nat → Nat → Hp → Prop, (∃ m, W 0 m (upd H1 D (.lst []))) ∧ ∀ i m H, W i m H →
      (J.stop i H ∧ Qd H) ∨ (J.go i H ∧ ∃ Nx : Hp → Prop, (∀ H', Nx H' → ∃ m', m' < m ∧ W (i + 1) m' H') ∧ ∀ x H', J.yld i H x H' → tg x (L2.wipe σ vs) H' fun σ2 H2 => L2.wipe σ2 vs = L2.wipe σ vs ∧ tt σ2 H2 fun b H3 =>
        if b = true then te σ2 H3 fun y H4 => ∃ acc, H4 D = some (.lst acc) ∧ acc.length < sizeLine ∧ Nx (upd H4 D (.lst (acc ++ [y]))) else Nx H3) := by
  obtain ⟨fB, fW, fP, fL⟩ := S.wl.fresh hD
  let P : Nat → Hp → Prop := fun i H' => ∃ B' W' Γi acc pre rest, Ev H1 B1 W1 H' B' (fun q => W' q ∨ q = D) ∧ Ste F H' B' W' (L2.wipe σ vs) Γi ∧ ¬ B' D ∧ ¬ W' D ∧ H' D = some (.lst acc) ∧ acc.length ≤ i ∧ Rps F.K H' B' pre acc ∧ lcN g t e vs dat (n - i) i Γi = some (rest, Γ2) ∧ pre ++ rest = out
  have h0 : P 0 (upd H1 D (.lst [])) := ⟨B1, W1, wipeE vs Γ1, [], [], out, Ev.start hD, (S.new hD).wipes vs, fB, fW, upd_same, Nat.le_refl _, rfl, ev, rfl⟩
  refine ⟨fun i m H' => m = n - i ∧ i ≤ n ∧ P i H', ⟨n, by simp, Nat.zero_le _, h0⟩, ?_⟩
  rintro i m H2 ⟨rfl, hi, B2, W2, Γi, acc, pre, rest, E2, S2, nb2, nw2, l2, ac2, r2, e2, o2⟩
  obtain ⟨f1, f2⟩ := fd i H2 B2 _ E2 (S2.wl.side l2 nb2 fP fL)
  by_cases hlt : i < n
  · obtain ⟨go, yl⟩ := f2 hlt
    refine .inr ⟨go, P (i + 1), fun H' p => ⟨n - (i + 1), by omega, rfl, hlt, p⟩, fun x H3 y => ?_⟩
    obtain ⟨nw, rx⟩ := yl x H3 y
    rw [show n - i = (n - (i + 1)) + 1 by omega] at e2
    unfold lcN at e2
    split at e2
    · cases e2
    rename_i Γ3 eg
    have n3 : Ev H2 B2 W2 H3 B2 W2 := nw.ev
    have lw : (L2.wipe σ vs).length = N := by rw [wipe_length]; exact hl
    refine hg x _ H3 _ ⟨lw, H3, B2, W2, Γi, B2, W2, _, Γ3, nw.ste S2, Ev.refl _ _ _, vokD rx, eg, fun σ4 H4 B4 W4 E4 S4 l4 A4 => ?_⟩
    have w4 : L2.wipe σ4 vs = L2.wipe σ vs := by
      have := wipe_eq (vs := vs) (by rw [lw]; exact l4) A4 hag
      rw [this, wipe_wipe]
    have E24 : Ev H2 B2 W2 H4 B4 W4 := n3.trans E4
    split at e2
    · cases e2
    · rename_i Γ5 et
      refine ⟨w4, ht _ _ _ ⟨Γ3, B4, W4, false, Γ5, S4, et, fun H5 B5 W5 E5 S5 => ?_⟩⟩
      refine iteF ?_
      have E25 := E24.trans E5
      refine ⟨B5, W5, _, acc, pre, rest, E2.trans (E25.side ⟨_, l2⟩ nw2), ?_, E25.outB l2 nw2 nb2, E25.out l2 nw2, E25.stay _ _ l2 nw2, by omega, r2.keep (E25.kp S2.wl), e2, o2⟩
      rw [← w4]; exact S5.wipes vs
    · rename_i Γ5 et
      refine ⟨w4, ht _ _ _ ⟨Γ3, B4, W4, true, Γ5, S4, et, fun H5 B5 W5 E5 S5 => ?_⟩⟩
      refine iteT ?_
      split at e2
      · cases e2
      rename_i vw Γ6 ee
      split at e2
      · cases e2
      rename_i d Γ7 ed
      split at e2
      · cases e2
      rename_i ds Γ8 el
      cases e2
      refine he _ _ _ ⟨Γ5, B5, W5, vw, Γ6, S5, ee, fun y H6 B6 W6 E6 S6 V6 => ?_⟩
      obtain ⟨B7, W7, E7, S7, r7⟩ := S6.fz E6 V6 ed
      have E27 := E24.trans (E5.trans E7)
      have l7 : H6 D = some (.lst acc) := E27.stay _ _ l2 nw2
      have nb7 := E27.outB l2 nw2 nb2
      have nw7 := E27.out l2 nw2
      have r7' := r2.keep (E27.kp S2.wl)
      refine ⟨acc, l7, by rw [lim_eq]; omega, B7, W7, _, acc ++ [y], pre ++ [d], ds, ?_, ?_, nb7, nw7, upd_same, by simp; omega, ?_, el, by rw [List.append_assoc]; exact o2⟩
      · exact (E2.trans (E27.side ⟨_, l2⟩ nw2)).trans (Ev.at (.inr rfl))
      · rw [← w4]
        exact (S7.poke nb7 nw7 fP fL l7).wipes vs
      · exact (Rps.append r7' (show Rps F.K H6 B7 [d] [y] from ⟨y, [], rfl, r7, rfl⟩)).keep (Kp.poke nb7 l7)
  · have hi' : i = n := by omega
    subst hi'
    rw [Nat.sub_self] at e2
    cases e2
    rw [List.append_nil] at o2
    subst o2
    refine .inl ⟨f1 (Nat.le_refl _), q H2 B2 W2 E2.drop S2 ⟨[D], ⟨D, acc, rfl, rfl, l2, r2⟩, by simp, fun p hp => ?_⟩⟩
    rw [List.mem_singleton.mp hp]
    exact ⟨nb2, nw2, fP, fL, .inl hD⟩
end
def sLc (fI : SemR) (g : SemT) (t : SemB) (e : Sem1) (vs : List Nat) : Sem1 := fun Γ => match fI Γ with
  | none => none
  | some (.sl i xs, Γ1) => if i ∈ vs then none else if xs.length ≤ LIM then match lcL g t e vs xs (wipeE vs (Γ1.set i (some (.M xs)))) with
      | none => none
      | some (out, Γ2) => match look Γ2 i with
        | some (.M ys) => some (.val (.O out), back Γ1 vs (Γ2.set i (some (.O ys))))
        | _ => none
    else none
  | some (s, Γ1) => if s.n ≤ LIM then match s.comp g t e vs (wipeE vs Γ1) with
      | none => none
      | some (out, Γ2) => some (.val (.O out), back Γ1 vs Γ2)
    else none
def STs (X : Cx) (ifs : List Expr) (f : SemB) : Prop := ∀ F : Fx, F.K = X.K → PTs X ifs (tT F f)
def bYes : SemB := fun Γ => some (true, Γ)
theorem sts_nil {X : Cx} : STs X [] bYes := fun F hF => ⟨fun pins s σ H Q I ⟨Γ, B, W, b, Γ', S, e, q⟩ => by
  cases e
  exact pts_nil.run pins s σ H Q I (q H B W (Ev.refl _ _ _) S)⟩
theorem sts_one {X : Cx} {c : Expr} {f : SemB} (h : ST X c f) : STs X [c] f := fun F hF => pts_one (h F hF)
section
variable {X : Cx} {tg it elt : Expr} {ifs : List Expr} {fI : SemR} {g : SemT} {t : SemB} {e : Sem1} {ag : As} {own : List (Str × Nat)} {scope : Scope} {pos spos py : Pos} {i : Nat} {y : Str}
theorem red_lc {F : Fx} (hF : F.K = X.K) {N : Nat} (vs : List Nat) (hag : ∀ j, ag j = true → j ∈ vs) {σ : Sg} {H : Hp} {Q : VK} (hl : σ.length = N) (h : tS F (sLc fI g t e vs) σ H Q) :
    tLc (tR F fI) (fun v σ H Q => ∃ F', F'.K = X.K ∧ tG F' N ag g v σ H Q) (fun σ H Q => ∃ F', F'.K = X.K ∧ tT F' t σ H Q) (fun σ H Q => ∃ F', F'.K = X.K ∧ tS F' e σ H Q) vs σ H Q := by
  obtain ⟨Γ, B, W, vw, Γ', S, ev, q⟩ := h
  unfold sLc at ev
  have old : ∀ {H1 H2 : Hp} {B1 W1 B2 W2 : Ad} {Γ1 : Env}, Ste F H1 B1 W1 σ Γ1 → Ev H1 B1 W1 H2 B2 W2 → ∀ i ∈ vs, ∀ a, look Γ1 i = some (.F a) → ∃ v, σ[i]? = some (some v) ∧ Rp F.K H2 B2 a v := fun S E i hi a ha => by
    obtain ⟨R, h1, _⟩ := S.hold
    obtain ⟨v, b1, b2, _⟩ := h1 i _ ha
    exact ⟨v, b1, b2.2.keep (E.kp S.wl)⟩
  split at ev
  · cases ev
  · rename_i i xs Γ1 e1
    refine ⟨Γ, B, W, _, Γ1, S, e1, fun J H1 B1 W1 E1 S1 ⟨hx, p, hv, hJ⟩ D hD => ?_⟩
    subst hJ
    split at ev
    · cases ev
    rename_i hiv
    split at ev
    rotate_left
    · cases ev
    rename_i hle
    split at ev
    · cases ev
    rename_i out Γ2 e2
    split at ev
    · rename_i ys hy
      cases ev
      obtain ⟨p', us, ep, l, r, wp, np, nl, S2⟩ := S1.lock hv hx
      cases ep
      have r2 : Rps (F.lk p).K H1 B1 xs us := r
      refine lc_core (F := F.lk p) (N := N) (tg := fun v σ H Q => ∃ F', F'.K = X.K ∧ tG F' N ag g v σ H Q) (tt := fun σ H Q => ∃ F', F'.K = X.K ∧ tT F' t σ H Q) (te := fun σ H Q => ∃ F', F'.K = X.K ∧ tS F' e σ H Q) (Feeds.list S2.wl l (fun z => z.2 rfl) r2) S2 hl hag hle ((lcN_li g t e vs xs xs.length 0 _ (Nat.zero_add _)).trans e2)
        (fun v σ H Q h => ⟨F.lk p, hF, h⟩) (fun σ H Q h => ⟨F.lk p, hF, h⟩) (fun σ H Q h => ⟨F.lk p, hF, h⟩) hD fun H3 B3 W3 E3 S3 V3 => ?_
      have hv3 : (L2.wipe σ vs)[i]? = some (some (.ref p)) := by rw [wipe_out hiv]; exact hv
      have S4 := S3.unlock nl hv3 hy
      have E4 := Ev.lock E3 wp
      exact q _ H3 B3 _ (E1.trans E4) (S4.backs (old S1 E4)) ((V3.lock rfl).base E1)
    · cases ev
  · rename_i s Γ1 hns e1
    refine ⟨Γ, B, W, s, Γ1, S, e1, fun J H1 B1 W1 E1 S1 ok D hD => ?_⟩
    have fd : Feeds F H1 B1 W1 J s.n s.dat := by
      cases s with
      | sl i xs => exact absurd rfl (hns i xs)
      | li xs => exact ok
      | rg lo c n => exact ok
    split at ev
    rotate_left
    · cases ev
    rename_i hle
    split at ev
    · cases ev
    rename_i out Γ2 e2
    cases ev
    rw [Src.comp_eq] at e2
    exact lc_core (N := N) (tg := fun v σ H Q => ∃ F', F'.K = X.K ∧ tG F' N ag g v σ H Q) (tt := fun σ H Q => ∃ F', F'.K = X.K ∧ tT F' t σ H Q) (te := fun σ H Q => ∃ F', F'.K = X.K ∧ tS F' e σ H Q) fd S1 hl hag hle e2
      (fun v σ H Q h => ⟨F, hF, h⟩) (fun σ H Q h => ⟨F, hF, h⟩) (fun σ H Q h => ⟨F, hF, h⟩) hD fun H3 B3 W3 E3 S3 V3 => q _ H3 B3 W3 (E1.trans E3) (S3.backs (old S1 E3)) (V3.base E1)

abbrev Blk (X : Cx) (scope : Scope) (P : Cx → Prop) : Prop := ∀ (s : Shared) (H : Hp) (C : Addr) (cl : List (Str × Addr)) (fp : List Addr), P (X.blk s H scope (compEnvC scope cl C X.env) fp)
theorem lc_pg {N : Nat} (hN : X.N.length = N) (h : Blk X scope fun Y => SG Y tg ag g) : Blk X scope fun Y => PG Y tg (fun v σ H Q => ∃ F', F'.K = X.K ∧ tG F' N ag g v σ H Q) :=
  fun s H C cl fp => ⟨fun pins s' σ H v u Q I r ⟨F', hF', q⟩ => (h s _ C cl fp F' hF').run pins s' σ H v u Q I r (hN ▸ q)⟩
theorem lc_pt (h : Blk X scope fun Y => STs Y ifs t) : Blk X scope fun Y => PTs Y ifs (fun σ H Q => ∃ F', F'.K = X.K ∧ tT F' t σ H Q) :=
  fun s H C cl fp => ⟨fun pins s' σ H Q I ⟨F', hF', q⟩ => (h s _ C cl fp F' hF').run pins s' σ H Q I q⟩
theorem lc_pe (h : Blk X scope fun Y => SE Y elt e) : Blk X scope fun Y => PE Y elt (fun σ H Q => ∃ F', F'.K = X.K ∧ tS F' e σ H Q) :=
  fun s H C cl fp => ⟨fun pins s' σ H Q I ⟨F', hF', q⟩ => (h s _ C cl fp F' hF').run pins s' σ H Q I q⟩
theorem se_lc (hc : X.calm = true) (hN : X.N.Nodup) (hi : SR X tg it fI) (ok : BlkOk X.N X.env.scope scope own) (hag : ∀ j, ag j = true → j ∈ own.map (·.2))
    (hg : Blk X scope fun Y => SG Y tg ag g) (ht : Blk X scope fun Y => STs Y ifs t) (he : Blk X scope fun Y => SE Y elt e) (hs : ∀ x, foldedSetIterable it X.env x = pure x) :
    SE X (.ListComp elt [⟨tg, it, ifs, 0⟩] scope pos) (sLc fI g t e (own.map (·.2))) := fun F hF => ⟨fun pins s σ H Q I h =>
  (pe_lc hc hN (hi F hF) ok (lc_pg (N := X.N.length) rfl hg) (lc_pt ht) (lc_pe he) hs).run pins s σ H Q I (red_lc hF _ hag I.len h)⟩
theorem ss_setLc (hc : X.calm = true) (hN : X.N.Nodup) (hy : X.N[i]? = some y) (hyl : X.env.scope.names.lookup y = some .local) (hsw : swapsWith (.ListComp elt [⟨tg, it, ifs, 0⟩] scope pos) (some (.Name y py)) spos.line X.env = pure true)
    (hi : SR X tg it fI) (ok : BlkOk X.N X.env.scope scope own) (hag : ∀ j, ag j = true → j ∈ own.map (·.2))
    (hg : Blk X scope fun Y => SG Y tg ag g) (ht : Blk X scope fun Y => STs Y ifs t) (he : Blk X scope fun Y => SE Y elt e) (hs : ∀ x, foldedSetIterable it X.env x = pure x) :
    SS X (.Assign [.Name y py] (.ListComp elt [⟨tg, it, ifs, 0⟩] scope pos) spos) (aOne i) (cAsg (sLc fI g t e (own.map (·.2))) (gNm i)) := fun F hF => ⟨fun pins s σ H D I h => by
  refine (ps_setLc hc hN hy hyl hsw (hi F hF) ok (lc_pg (N := X.N.length) rfl hg) (lc_pt ht) (lc_pe he) hs).run pins s σ H D I (red_lc hF _ hag I.len ?_)
  obtain ⟨Γ, B, W, va, Γ1, S, e1, q⟩ := red_asg h
  refine ⟨Γ, B, W, va, Γ1, S, e1, fun v H1 B1 W1 E1 S1 V1 => ?_⟩
  obtain ⟨hl, H0, B0, W0, Γ2, B2, W2, c, Γ3, S2, E2, V2, e2, q2⟩ := q v H1 B1 W1 E1 S1 V1
  cases e2
  obtain ⟨W', E', S'⟩ := S2.lay E2 V2 i (by rw [hl]; exact (List.getElem?_eq_some_iff.mp hy).1)
  refine q2 _ H1 B2 W' E' S' (by rw [List.length_set]; exact hl) fun j hj => ?_
  rw [List.getElem?_set_ne]
  intro z
  subst z
  simp [aOne] at hj⟩
end
end G

namespace G
open PySem PySem.Spec PyProof.Rows L2

/-! ### ranges -/
section
variable {X : Cx} {tg a b c : Expr} {fs : SemA} {p pos : Pos}
def rgOk (i : Int) : Bool := decide (i.natAbs < 2 ^ 62)
def rRg1 (fs : SemA) : SemR := fun Γ => match fs Γ with
  | some ([.int j], Γ1) => if rgOk j = true then some (.rg 0 1 j.toNat, Γ1) else none
  | _ => none
def rRg2 (fs : SemA) : SemR := fun Γ => match fs Γ with
  | some ([.int i, .int j], Γ1) => if (rgOk i && rgOk j) = true then some (.rg i 1 (j - i).toNat, Γ1) else none
  | _ => none
def rRg3 (fs : SemA) : SemR := fun Γ => match fs Γ with
  | some ([.int i, .int j, .int c], Γ1) => if c ≠ 0 ∧ c.natAbs < 1073741824 ∧ Builtin.Range.small i j c = true ∧ 0 ≤ Builtin.Range.rangeSize i j c then some (.rg i c (Builtin.Range.rangeSize i j c).toNat, Γ1) else none
  | _ => none
theorem rgOk_of {i : Int} (h : rgOk i = true) : -(2 ^ 62) ≤ i ∧ i < 2 ^ 62 := by
  unfold rgOk at h
  have h' := of_decide_eq_true h
  omega
theorem sr_rg1 (hg : Gl X "range") (hm : X.mg "range" = none) (ha : SA X [a] fs) (hs : notStar a = true) : SR X tg (.Call (.Name "range" p) [a] [] pos) (rRg1 fs) :=
  fun F hF => iimp (pi_range1 hg hm (ha F hF) (star_cons hs)) fun σ H R ⟨Γ, B, W, src, Γ', S, e, q⟩ => by
    unfold rRg1 at e
    split at e
    · rename_i j Γ1 e1
      split at e
      · rename_i ok
        cases e
        refine ⟨Γ, B, W, _, _, S, e1, fun vs H1 B1 W1 E1 S1 r1 => ?_⟩
        obtain ⟨v, _, rfl, rv, rfl⟩ := r1
        obtain ⟨k1, k2⟩ := rgOk_of ok
        exact ⟨j, by rw [show v = .int j from rv], k1, k2, q _ _ _ _ E1 S1 (Feeds.rng 0 j.toNat)⟩
      · cases e
    · cases e
theorem sr_rg2 (hg : Gl X "range") (hm : X.mg "range" = none) (ha : SA X [a, b] fs) (hs : notStar a = true) (hs2 : notStar b = true) : SR X tg (.Call (.Name "range" p) [a, b] [] pos) (rRg2 fs) :=
  fun F hF => iimp (pi_range2 hg hm (ha F hF) (by rw [star_cons hs, star_cons hs2]; rfl) (star_cons hs2)) fun σ H R ⟨Γ, B, W, src, Γ', S, e, q⟩ => by
    unfold rRg2 at e
    split at e
    · rename_i i j Γ1 e1
      split at e
      · rename_i ok
        cases e
        rw [Bool.and_eq_true] at ok
        refine ⟨Γ, B, W, _, _, S, e1, fun vs H1 B1 W1 E1 S1 r1 => ?_⟩
        obtain ⟨v, _, rfl, rv, w, _, rfl, rw', rfl⟩ := r1
        obtain ⟨k1, k2⟩ := rgOk_of ok.1
        obtain ⟨k3, k4⟩ := rgOk_of ok.2
        exact ⟨i, j, by rw [show v = .int i from rv, show w = .int j from rw'], ⟨k1, k2, k3, k4⟩, q _ _ _ _ E1 S1 (Feeds.rng i _)⟩
      · cases e
    · cases e
theorem sr_rg3 (hg : Gl X "range") (hm : X.mg "range" = none) (ha : SA X [a, b, c] fs) (hs : notStar a = true) (hs2 : notStar b = true) (hs3 : notStar c = true) : SR X tg (.Call (.Name "range" p) [a, b, c] [] pos) (rRg3 fs) :=
  fun F hF => iimp (pi_range3 hg hm (ha F hF) (star_cons hs) (back_plain (by simp [hs2, hs3]))) fun σ H R ⟨Γ, B, W, src, Γ', S, e, q⟩ => by
    unfold rRg3 at e
    split at e
    · rename_i i j c Γ1 e1
      split at e
      · rename_i ok
        cases e
        obtain ⟨k1, k2, k3, k4⟩ := ok
        refine ⟨Γ, B, W, _, _, S, e1, fun vs H1 B1 W1 E1 S1 r1 => ?_⟩
        obtain ⟨v, _, rfl, rv, w, _, rfl, rw', u, _, rfl, ru, rfl⟩ := r1
        exact ⟨i, j, c, _, by rw [show v = .int i from rv, show w = .int j from rw', show u = .int c from ru], ⟨k1, k2, k3, (Int.toNat_of_nonneg k4).symm⟩, q _ _ _ _ E1 S1 (Feeds.rngC i c _)⟩
      · cases e
    · cases e
end

/-! ### what is not read: no meaning -/
def cDead : SemS := fun _ => none
theorem ss_dead {X : Cx} {st : Stmt} : SS X st (fun _ => false) cDead := fun F hF => ⟨fun pins s σ H D I ⟨_, Γ, B, W, fl, Γ', S, e, q⟩ => by cases e⟩

/-! ### one meaning or another -/
def sAlt (f g : Sem1) : Sem1 := fun Γ => match f Γ with
  | some r => some r
  | none => g Γ
theorem se_alt {X : Cx} {e : Expr} {f g : Sem1} (hf : SE X e f) (hg : SE X e g) : SE X e (sAlt f g) := fun F hF => ⟨fun pins s σ H Q I ⟨Γ, B, W, vw, Γ', S, ee, q⟩ => by
  unfold sAlt at ee
  cases h : f Γ with
  | some r =>
    rw [h] at ee
    cases ee
    exact (hf F hF).run pins s σ H Q I ⟨Γ, B, W, vw, Γ', S, h, q⟩
  | none =>
    rw [h] at ee
    exact (hg F hF).run pins s σ H Q I ⟨Γ, B, W, vw, Γ', S, ee, q⟩⟩

/-! ### a < b < c -/
def sChain (op op' : D → D → Option Cell) (f g h : Sem1) : Sem1 := fun Γ => match f Γ with
  | none => none
  | some (va, Γ1) => match g Γ1 with
    | none => none
    | some (vb, Γ2) => match va.pv Γ2, vb.pv Γ2 with
      | some da, some db => match op da db with
        | some (.F (.bool true)) => match h Γ2 with
          | none => none
          | some (vc, Γ3) => match vb.pv Γ3, vc.pv Γ3 with
            | some db', some dc => (op' db' dc).map fun c => (.val c, Γ3)
            | _, _ => none
        | some (.F (.bool false)) => some (.val (.F (.bool false)), Γ2)
        | _ => none
      | _, _ => none
theorem red_chain {X : Cx} {op op' : D → D → Option Cell} {r r' : R2} (hr : Rul2 X op r) (hr' : Rul2 X op' r') {f g h : Sem1} {F : Fx} (hF : F.K = X.K) {σ : Sg} {H : Hp} {Q : VK} (hh : tS F (sChain op op' f g h) σ H Q) : tChain r r' (tS F f) (tS F g) (tS F h) σ H Q := by
  obtain ⟨Γ, B, W, vw, Γ', S, e, q⟩ := hh
  unfold sChain at e
  split at e
  · cases e
  rename_i va Γ1 e1
  split at e
  · cases e
  rename_i vb Γ2 e2
  split at e
  · rename_i da db p1 p2
    refine ⟨Γ, B, W, va, Γ1, S, e1, fun x H1 B1 W1 E1 S1 V1 => ⟨_, B1, W1, vb, _, S1, e2, fun y H2 B2 W2 E2 S2 V2 => ?_⟩⟩
    split at e
    · rename_i eo
      split at e
      · cases e
      rename_i vc Γ3 e3
      split at e
      · rename_i db' dc p3 p4
        cases eo' : op' db' dc with
        | none => rw [eo'] at e; cases e
        | some c =>
          rw [eo'] at e
          cases e
          refine hr F H2 B2 W2 x y da db _ _ hF S2.wl (S2.pv (V1.keep S1.wl E2) p1) (S2.pv V2 p2) eo fun v H' E' w' go V' => ?_
          have hv : v = .bl true := by
            obtain ⟨R, hh, _⟩ := V' σ
            exact hh.2
          refine ⟨true, hv, ?_⟩
          have S2' := go _ _ S2
          refine ⟨_, B2, W2, vc, _, S2', e3, fun z H3 B3 W3 E3 S3 V3 => ?_⟩
          have V2' := V2.keep S2.wl E'
          refine hr' F H3 B3 W3 y z db' dc c _ hF S3.wl (S3.pv (V2'.keep S2'.wl E3) p3) (S3.pv V3 p4) eo' fun v H'' E'' w'' go' V'' => ?_
          exact q v H'' B3 W3 ((((E1.trans E2).trans E').trans E3).trans E'') (go' _ _ S3) ((V'' σ).base (((E1.trans E2).trans E').trans E3))
      · cases e
    · rename_i eo
      cases e
      refine hr F H2 B2 W2 x y da db _ _ hF S2.wl (S2.pv (V1.keep S1.wl E2) p1) (S2.pv V2 p2) eo fun v H' E' w' go V' => ?_
      have hv : v = .bl false := by
        obtain ⟨R, hh, _⟩ := V' σ
        exact hh.2
      subst hv
      exact ⟨false, rfl, q _ H' B2 W2 ((E1.trans E2).trans E') (go _ _ S2) (vokD rfl)⟩
    · cases e
  · cases e
theorem se_chain {X : Cx} {a b c : Expr} {o o' : CmpOp} {op op' : D → D → Option Cell} {r r' : R2} {f g h : Sem1} {pos : Pos} (ho : OpR X (compareOp o) r) (ho' : OpR X (compareOp o') r') (hr : Rul2 X op r) (hr' : Rul2 X op' r') (ha : SE X a f) (hb : SE X b g) (hc : SE X c h) (hm : lastMarks [o, o'] [b, c] = false) : SE X (.Compare a [o, o'] [b, c] pos) (sChain op op' f g h) :=
  fun F hF => pimp (pe_chain ho ho' (ha F hF) (hb F hF) (hc F hF) hm) fun σ H Q hh => red_chain hr hr' hF hh
theorem st_chain {X : Cx} {a b c : Expr} {o o' : CmpOp} {op op' : D → D → Option Cell} {r r' : R2} {f g h : Sem1} {pos : Pos} (ho : OpR X (compareOp o) r) (ho' : OpR X (compareOp o') r') (hr : Rul2 X op r) (hr' : Rul2 X op' r') (ha : SE X a f) (hb : SE X b g) (hc : SE X c h) (hm : lastMarks [o, o'] [b, c] = false) : ST X (.Compare a [o, o'] [b, c] pos) (asB (sChain op op' f g h)) :=
  fun F hF => timp (pt_chain (pos := pos) ho ho' (ha F hF) (hb F hF) (hc F hF) hm) fun σ H Q h => red_chain hr hr' hF (asB_t h)

/-! ### texts -/
def strs? : List D → Option (List Str)
  | [] => some []
  | .str i :: r => (strs? r).map (i :: ·)
  | _ => none
theorem strs_of : ∀ {xs : List D} {ss : List Str}, strs? xs = some ss → xs = ss.map .str
  | [], ss, h => by cases h; rfl
  | .str i :: r, ss, h => by
    unfold strs? at h
    cases e : strs? r with
    | none => rw [e] at h; cases h
    | some rs => rw [e] at h; cases h; rw [strs_of e]; rfl
  | .none :: _, _, h => by cases h
  | .bool _ :: _, _, h => by cases h
  | .int _ :: _, _, h => by cases h
  | .list _ :: _, _, h => by cases h
  | .tuple _ :: _, _, h => by cases h
  | .dict _ :: _, _, h => by cases h
theorem rps_strs {K : PySem.W.Frag} {H : Hp} {B : Ad} : ∀ {ss : List Str} {vs : List V}, Rps K H B (ss.map .str) vs → vs = ss.map V.str
  | [], _, h => h
  | s :: ss, _, ⟨v, r, e, h1, h2⟩ => by subst e; cases h1; rw [rps_strs h2]; rfl
theorem rps_mkS {K : PySem.W.Frag} {H : Hp} {B : Ad} : ∀ ss : List Str, Rps K H B (ss.map .str) (ss.map V.str)
  | [] => rfl
  | s :: ss => ⟨_, _, rfl, rfl, rps_mkS ss⟩
/-- sorted(texts) -/
def ltS (x y : Str) : Bool := ltCps x.cps.toList y.cps.toList
def insS (x : Str) : List Str → List Str
  | [] => [x]
  | y :: r => if ltS y x = true then y :: insS x r else x :: y :: r
def srtS : List Str → List Str
  | [] => []
  | x :: r => insS x (srtS r)

theorem ltC_irr : ∀ a : List Nat, ltCps a a = false
  | [] => rfl
  | x :: r => by unfold ltCps; simp [ltC_irr r]
theorem ltC_tot : ∀ a b : List Nat, ltCps a b = false → ltCps b a = false → a = b
  | [], [], _, _ => rfl
  | [], _ :: _, h, _ => by cases h
  | _ :: _, [], _, h => by cases h
  | x :: r, y :: t, h, k => by
    unfold ltCps at h k
    simp only [Bool.or_eq_false_iff, decide_eq_false_iff_not, Bool.and_eq_false_iff, beq_eq_false_iff_ne] at h k
    have e : x = y := by omega
    subst e
    have h2 : ltCps r t = false := h.2.elim (fun z => absurd rfl z) id
    have k2 : ltCps t r = false := k.2.elim (fun z => absurd rfl z) id
    rw [ltC_tot r t h2 k2]
theorem ltC_tr : ∀ a b c : List Nat, ltCps b a = false → ltCps c b = false → ltCps c a = false
  | [], _, [], _, _ => rfl
  | [], [], _ :: _, _, k => k
  | [], _ :: _, _ :: _, _, _ => rfl
  | _ :: _, [], [], h, _ => h
  | _ :: _, _ :: _, [], _, k => by cases k
  | x :: r, [], z :: u, h, k => by cases h
  | x :: r, y :: t, z :: u, h, k => by
    unfold ltCps at h k ⊢
    simp only [Bool.or_eq_false_iff, decide_eq_false_iff_not, Bool.and_eq_false_iff, beq_eq_false_iff_ne] at h k ⊢
    refine ⟨by omega, ?_⟩
    by_cases e : z = x
    · right
      have e1 : y = x := by omega
      have e2 : z = y := by omega
      exact ltC_tr r t u (h.2.elim (fun q => absurd e1 q) id) (k.2.elim (fun q => absurd e2 q) id)
    · exact .inl e
theorem str_ext {x y : Str} (h : x.cps.toList = y.cps.toList) : x = y := by
  cases x; cases y
  simp only at h
  rw [show _ = _ from Array.toList_inj.mp h]
theorem ltC_asym : ∀ a b : List Nat, ltCps a b = true → ltCps b a = false
  | [], [], h => by cases h
  | [], _ :: _, _ => rfl
  | _ :: _, [], h => by cases h
  | x :: r, y :: t, h => by
    unfold ltCps at h ⊢
    simp only [Bool.or_eq_true, decide_eq_true_eq, Bool.and_eq_true, beq_iff_eq] at h
    simp only [Bool.or_eq_false_iff, decide_eq_false_iff_not, Bool.and_eq_false_iff, beq_eq_false_iff_ne]
    rcases h with h | ⟨h1, h2⟩
    · exact ⟨by omega, .inl (by omega)⟩
    · exact ⟨by omega, .inr (ltC_asym r t h2)⟩
def leS (x y : Str) : Prop := ltS y x = false
theorem leS_tr {x y z : Str} (h : leS x y) (k : leS y z) : leS x z := ltC_tr _ _ _ h k
theorem leS_anti {x y : Str} (h : leS x y) (k : leS y x) : x = y := str_ext (ltC_tot _ _ k h)
theorem leS_tot {x y : Str} (h : ¬ leS x y) : leS y x := by
  unfold leS ltS at *
  have h1 : ltCps y.cps.toList x.cps.toList = true := by simpa using h
  cases k : ltCps x.cps.toList y.cps.toList with
  | false => rfl
  | true =>
    have a := ltC_asym _ _ h1
    rw [a] at k; cases k

theorem risingS_pw : ∀ (r : List Str) (p : Str), risingS p r = true → (p :: r).Pairwise leS
  | [], p, _ => by simp
  | x :: r, p, h => by
    unfold risingS at h
    rw [Bool.and_eq_true] at h
    have ih := risingS_pw r x h.2
    have hpx : leS p x := by unfold leS ltS; simpa using h.1
    refine List.pairwise_cons.mpr ⟨fun y hy => ?_, ih⟩
    rcases List.mem_cons.mp hy with rfl | hy
    · exact hpx
    · exact leS_tr hpx ((List.pairwise_cons.mp ih).1 y hy)
theorem sortedS_pw : ∀ {l : List Str}, sortedS l = true → l.Pairwise leS
  | [], _ => .nil
  | x :: r, h => risingS_pw r x h
theorem insS_perm (x : Str) : ∀ l : List Str, (insS x l).Perm (x :: l)
  | [] => .refl _
  | y :: r => by
    unfold insS
    split
    · exact ((insS_perm x r).cons y).trans (.swap x y r)
    · exact .refl _
theorem srtS_perm : ∀ l : List Str, (srtS l).Perm l
  | [] => .refl _
  | x :: r => (insS_perm x _).trans ((srtS_perm r).cons x)
theorem insS_sorted (x : Str) : ∀ l : List Str, l.Pairwise leS → (insS x l).Pairwise leS
  | [], _ => by simp [insS]
  | y :: r, h => by
    have h' := List.pairwise_cons.mp h
    unfold insS
    split
    · rename_i hyx
      have hle : leS y x := by
        unfold leS ltS at *
        exact ltC_asym _ _ hyx
      refine List.pairwise_cons.mpr ⟨fun z hz => ?_, insS_sorted x r h'.2⟩
      rcases List.mem_cons.mp ((insS_perm x r).mem_iff.mp hz) with rfl | hz
      · exact hle
      · exact h'.1 z hz
    · rename_i hyx
      have hle : leS x y := by unfold leS; simpa using hyx
      refine List.pairwise_cons.mpr ⟨fun z hz => ?_, h⟩
      rcases List.mem_cons.mp hz with rfl | hz
      · exact hle
      · exact leS_tr hle (h'.1 z hz)
theorem srtS_sorted : ∀ l : List Str, (srtS l).Pairwise leS
  | [] => .nil
  | x :: r => insS_sorted x _ (srtS_sorted r)
def dSortedS : D → Option Cell
  | .list xs => match strs? xs with
    | some ss => if ss.length < 64 then some (.O ((srtS ss).map .str)) else none
    | none => none
  | _ => none
theorem rul_sortedS {X : Cx} : Rul1 X dSortedS (fun x H Q => rSortedS X.K [x] H Q) := by
  intro F H B W x da c Q hF w px e q
  rw [← hF]
  unfold dSortedS at e
  split at e
  · rename_i xs
    cases h : strs? xs with
    | none => rw [h] at e; cases e
    | some ss =>
      rw [h] at e
      dsimp only at e
      split at e
      · rename_i hz
        cases e
        obtain ⟨p, vs, e1, l, r⟩ := px
        rw [strs_of h] at r
        rw [rps_strs r] at l
        refine ⟨p, ss, by rw [e1], .inl (.inl l), hz, fun ys p' h1 h2 hp => ?_⟩
        have : ys = srtS ss := (h1.trans (srtS_perm ss).symm).eq_of_pairwise (le := leS) (fun x y _ _ k1 k2 => leS_anti k1 k2) (sortedS_pw h2) (srtS_sorted ss)
        subst this
        exact q.newL w (rps_mkS _) hp
      · cases e
  · cases e
def dSplit : D → D → Option Cell
  | .str a, .str b => if (!(b.length == 0) && decide (a.length + 2 ≤ LIM)) = true then some (.O ((Txt.split a b).map .str)) else none
  | _, _ => none
def dJoin : D → D → Option Cell
  | .str a, .list xs => match strs? xs with
    | some ys => if (ys.map (·.length)).sum + ys.length * a.length ≤ LIM then some (.F (.str (Txt.join a ys))) else none
    | none => none
  | _, _ => none
theorem rul_split {X : Cx} : ∀ (F : Fx) (H : Hp) (B W : Ad) (x y : V) (da db : D) (c : Cell) (Q : VK), F.K = X.K → Wl F H B W → Pk F.K H B x da → Pk F.K H B y db → dSplit da db = some c → Res F H B W c Q →
    ∃ a b, x = .str a ∧ [y] = [.str b] ∧ (b.length == 0) = false ∧ a.length + 2 ≤ sizeLine ∧ rNewStrs (Txt.split a b) H Q := by
  intro F H B W x y da db c Q hF w px py e q
  unfold dSplit at e
  split at e
  · rename_i a b
    split at e
    · rename_i h
      cases e
      rw [Bool.and_eq_true] at h
      exact ⟨a, b, px, by rw [show y = .str b from py], by simpa using h.1, by rw [lim_eq]; simpa using h.2, fun p hp => q.newL w (rps_mkS _) hp⟩
    · cases e
  · cases e
theorem rul_join {X : Cx} : ∀ (F : Fx) (H : Hp) (B W : Ad) (x y : V) (da db : D) (c : Cell) (Q : VK), F.K = X.K → Wl F H B W → Pk F.K H B x da → Pk F.K H B y db → dJoin da db = some c → Res F H B W c Q →
    ∃ a p, ∃ ys : List Str, x = .str a ∧ [y] = [.ref p] ∧ (SqL X.K H p (ys.map V.str) ∨ SqT X.K H p (ys.map V.str)) ∧ (ys.map (·.length)).sum + ys.length * a.length ≤ 16777216 ∧ Q (.str (Txt.join a ys)) H := by
  intro F H B W x y da db c Q hF w px py e q
  unfold dJoin at e
  split at e
  · rename_i a xs
    cases h : strs? xs with
    | none => rw [h] at e; cases e
    | some ys =>
      rw [h] at e
      dsimp only at e
      split at e
      · rename_i hz
        cases e
        obtain ⟨p, vs, e1, l, r⟩ := py
        rw [strs_of h] at r
        rw [rps_strs r] at l
        exact ⟨a, p, ys, px, by rw [e1], .inl (.inl (.inl l)), hz, q.data w rfl⟩
      · cases e
  · cases e
/-- int(text) -/
def dIntS : D → Option Cell
  | .str x => if x.length ≤ 640 then (intText? x).map fun n => .F (.int n) else none
  | _ => none
theorem call_intS {X : Cx} : CallR X (.type "int") (fun xs H Q => ∃ x n, xs = [.str x] ∧ intText? x = some n ∧ x.length ≤ 640 ∧ Q (.int n) H) := by
  intro pins s σ H xs us Q I r h
  obtain ⟨x, n, rfl, hn, hl, q⟩ := h
  obtain ⟨u, rfl, t, rfl⟩ := vals1 r
  exact PySem.W.KIN.call_text hn hl ⟨.int n, H, I.tok _, ⟨_, rfl⟩, q⟩
theorem rul_intS {X : Cx} : Rul1 X dIntS (fun x H Q => ∃ a n, [x] = [.str a] ∧ intText? a = some n ∧ a.length ≤ 640 ∧ Q (.int n) H) := by
  intro F H B W x da c Q hF w px e q
  unfold dIntS at e
  split at e
  · rename_i a
    split at e
    · rename_i hl
      cases h : intText? a with
      | none => rw [h] at e; cases e
      | some n =>
        rw [h] at e
        cases e
        exact ⟨a, n, by rw [show x = .str a from px], h, hl, q.data w rfl⟩
    · cases e
  · cases e
/-- a text within a text -/
def inS (i j : Str) : Bool := !(Builtin.Str.occurrences j i 0 j.length 1).isEmpty
def dInS : D → D → Option Cell
  | .str i, .str j => some (.F (.bool (inS i j)))
  | _, _ => none
def dNotInS : D → D → Option Cell
  | .str i, .str j => some (.F (.bool (!inS i j)))
  | _, _ => none
theorem rul_inS {X : Cx} : Rul2 X dInS (fun x y H Q => ∃ i j, x = .str i ∧ y = .str j ∧ Q (.bl (!(Builtin.Str.occurrences j i 0 j.length 1).isEmpty)) H) := by
  intro F H B W x y da db c Q hF w px py e q
  unfold dInS at e
  split at e
  · cases e; exact ⟨_, _, px, py, q.data w rfl⟩
  · cases e
theorem rul_notInS {X : Cx} : Rul2 X dNotInS (fun x y H Q => ∃ i j, x = .str i ∧ y = .str j ∧ Q (.bl (!(!(Builtin.Str.occurrences j i 0 j.length 1).isEmpty))) H) := by
  intro F H B W x y da db c Q hF w px py e q
  unfold dNotInS at e
  split at e
  · cases e; exact ⟨_, _, px, py, q.data w rfl⟩
  · cases e

/-! ### min and max of two texts -/
theorem two_at {a b : Str} {t u : Tok} {i : Nat} {v : Value} (h : (#[Value.str a t, .str b u])[i]? = some v) : ∃ x t1, v = .str x t1 ∧ (if i = 0 then a else b) = x := by
  match i, h with
  | 0, h => cases h; exact ⟨a, t, rfl, rfl⟩
  | 1, h => cases h; exact ⟨b, u, rfl, rfl⟩
  | i + 2, h => simp at h
theorem ltL_dec : ∀ a b : List Nat, decide (a < b) = ltCps a b
  | [], [] => rfl
  | [], _ :: _ => by simp [ltCps]
  | _ :: _, [] => by simp [ltCps]
  | x :: r, y :: t => by
    have ih := ltL_dec r t
    unfold ltCps
    rw [← ih, Bool.eq_iff_iff]
    simp [List.cons_lt_cons_iff]
theorem ltS_dec {x y : Str} : decide (x.cps.toList < y.cps.toList) = ltS x y := ltL_dec _ _
theorem gtS_dec {x y : Str} : decide (x.cps.toList > y.cps.toList) = ltS y x := ltL_dec _ _
theorem min_two_strs {prog : Program} {w : World} {A : Around} {E : Value → Shared → Prop} {s : Shared} {a b : Str} {t u : Tok} {Q : Value → Shared → Prop} (hh : A.handled = none)
    (h : ∀ h' tk, (∀ c o, s.heap.get? c = some o → h'.get? c = some o) → Q (if ltS b a = true then .str b u else .str a t) { s with heap := h', toks := tk }) :
    wpAny (model prog w) A (call (.builtin "min") [.str a t, .str b u]) Q E s := by
  have hT : (s.heap.push { cls := .type "tuple", data := .seq #[.str a t, .str b u] }).IsTuple s.heap.objs.size #[.str a t, .str b u] := ⟨_, Heap.get?_push_size _ rfl, rfl, 0, rfl⟩
  refine call_min_two (wpAny_pyIter_tuple hT ?_)
  have hsz : (s.heap.push { cls := .type "tuple", data := .seq #[.str a t, .str b u] }).objs.size = s.heap.objs.size + 1 := Heap.size_push ..
  have cmp : CmpOf prog w A.in1 .Lt (fun i v => (#[Value.str a t, .str b u])[i]? = some v) (fun i j => ltS (if i = 0 then a else b) (if j = 0 then a else b)) := fun i j vi vj s Q E hi hj h => by
    obtain ⟨x, t1, rfl, hx⟩ : ∃ x t1, vi = .str x t1 ∧ (if i = 0 then a else b) = x := two_at hi
    obtain ⟨y, t2, rfl, hy⟩ : ∃ x t1, vj = .str x t1 ∧ (if j = 0 then a else b) = x := two_at hj
    dsimp only at h
    rw [hx, hy] at h
    exact richCompare_gives (op := .Lt) (typeIs_str s x t1) (typeIs_str s y t2) F.slot_str_lt F.entry_str_lt (F.args_str_lt_2 _ _) (gives_str_lt x y t1 t2) (fun e => nomatch e) (show Q (.bool (decide _)) s by rw [ltS_dec]; exact h)
  refine ⟨_, [_, s.heap.objs.size], [_], _, _, _, _, rfl, Walks.tuple (A := A.in1) hh _ s.heap.objs.size (by rw [hsz]; exact Nat.ne_of_lt (Nat.lt_succ_self _)) #[.str a t, .str b u],
    ⟨⟨_, Heap.get?_push_size _ rfl, rfl, rfl⟩, hT.push _⟩, fun c hc => ?_, by simp, cmp, fun v h' tk hP hk => ?_⟩
  · show c < ((s.heap.push _).push _).objs.size
    rw [Heap.size_push, hsz]
    rcases List.mem_cons.mp hc with rfl | hc
    · rw [hsz]; exact Nat.lt_succ_self _
    · rcases List.mem_cons.mp hc with rfl | hc
      · exact Nat.lt_succ_of_lt (Nat.lt_succ_self _)
      · cases hc
  · have hold : ∀ c o, s.heap.get? c = some o → h'.get? c = some o := fun c o e => by
      refine hk c o (fun hm => ?_) (Heap.get?_push_of_some _ (Heap.get?_push_of_some _ e))
      rcases List.mem_cons.mp hm with e1 | hm
      · have := Heap.lt_size e; rw [e1, hsz] at this; exact Nat.lt_irrefl _ (Nat.lt_of_succ_lt this)
      · cases hm
    have := h h' tk hold
    have hv : v = if ltS b a = true then Value.str b u else Value.str a t := by
      have hP' : (#[Value.str a t, .str b u])[argBest (fun i j => ltS (if i = 0 then a else b) (if j = 0 then a else b)) 1]? = some v := hP
      by_cases hba : ltS b a = true
      · have e : argBest (fun i j => ltS (if i = 0 then a else b) (if j = 0 then a else b)) 1 = 1 := by simp [argBest, hba]
        rw [e] at hP'
        simpa [hba] using hP'.symm
      · have e : argBest (fun i j => ltS (if i = 0 then a else b) (if j = 0 then a else b)) 1 = 0 := by simp [argBest, hba]
        rw [e] at hP'
        simpa [hba] using hP'.symm
    rw [hv]; exact this
theorem max_two_strs {prog : Program} {w : World} {A : Around} {E : Value → Shared → Prop} {s : Shared} {a b : Str} {t u : Tok} {Q : Value → Shared → Prop} (hh : A.handled = none)
    (h : ∀ h' tk, (∀ c o, s.heap.get? c = some o → h'.get? c = some o) → Q (if ltS a b = true then .str b u else .str a t) { s with heap := h', toks := tk }) :
    wpAny (model prog w) A (call (.builtin "max") [.str a t, .str b u]) Q E s := by
  have hT : (s.heap.push { cls := .type "tuple", data := .seq #[.str a t, .str b u] }).IsTuple s.heap.objs.size #[.str a t, .str b u] := ⟨_, Heap.get?_push_size _ rfl, rfl, 0, rfl⟩
  refine call_max_two (wpAny_pyIter_tuple hT ?_)
  have hsz : (s.heap.push { cls := .type "tuple", data := .seq #[.str a t, .str b u] }).objs.size = s.heap.objs.size + 1 := Heap.size_push ..
  have cmp : CmpOf prog w A.in1 .Gt (fun i v => (#[Value.str a t, .str b u])[i]? = some v) (fun i j => ltS (if j = 0 then a else b) (if i = 0 then a else b)) := fun i j vi vj s Q E hi hj h => by
    obtain ⟨x, t1, rfl, hx⟩ : ∃ x t1, vi = .str x t1 ∧ (if i = 0 then a else b) = x := two_at hi
    obtain ⟨y, t2, rfl, hy⟩ : ∃ x t1, vj = .str x t1 ∧ (if j = 0 then a else b) = x := two_at hj
    dsimp only at h
    rw [hx, hy] at h
    exact richCompare_gives (op := .Gt) (typeIs_str s x t1) (typeIs_str s y t2) F.slot_str_gt F.entry_str_gt (F.args_str_gt_2 _ _) (gives_str_gt x y t1 t2) (fun e => nomatch e) (show Q (.bool (decide _)) s by rw [gtS_dec]; exact h)
  refine ⟨_, [_, s.heap.objs.size], [_], _, _, _, _, rfl, Walks.tuple (A := A.in1) hh _ s.heap.objs.size (by rw [hsz]; exact Nat.ne_of_lt (Nat.lt_succ_self _)) #[.str a t, .str b u],
    ⟨⟨_, Heap.get?_push_size _ rfl, rfl, rfl⟩, hT.push _⟩, fun c hc => ?_, by simp, cmp, fun v h' tk hP hk => ?_⟩
  · show c < ((s.heap.push _).push _).objs.size
    rw [Heap.size_push, hsz]
    rcases List.mem_cons.mp hc with rfl | hc
    · rw [hsz]; exact Nat.lt_succ_self _
    · rcases List.mem_cons.mp hc with rfl | hc
      · exact Nat.lt_succ_of_lt (Nat.lt_succ_self _)
      · cases hc
  · have hold : ∀ c o, s.heap.get? c = some o → h'.get? c = some o := fun c o e => by
      refine hk c o (fun hm => ?_) (Heap.get?_push_of_some _ (Heap.get?_push_of_some _ e))
      rcases List.mem_cons.mp hm with e1 | hm
      · have := Heap.lt_size e; rw [e1, hsz] at this; exact Nat.lt_irrefl _ (Nat.lt_of_succ_lt this)
      · cases hm
    have := h h' tk hold
    have hv : v = if ltS a b = true then Value.str b u else Value.str a t := by
      have hP' : (#[Value.str a t, .str b u])[argBest (fun i j => ltS (if j = 0 then a else b) (if i = 0 then a else b)) 1]? = some v := hP
      by_cases hba : ltS a b = true
      · have e : argBest (fun i j => ltS (if j = 0 then a else b) (if i = 0 then a else b)) 1 = 1 := by simp [argBest, hba]
        rw [e] at hP'
        simpa [hba] using hP'.symm
      · have e : argBest (fun i j => ltS (if j = 0 then a else b) (if i = 0 then a else b)) 1 = 0 := by simp [argBest, hba]
        rw [e] at hP'
        simpa [hba] using hP'.symm
    rw [hv]; exact this
theorem call_min2S {X : Cx} (hc : X.calm = true) : CallR X (.builtin "min") (fun xs H Q => ∃ i j, xs = [.str i, .str j] ∧ Q (.str (if ltS j i = true then j else i)) H) := by
  intro pins s σ H xs us Q I r h
  obtain ⟨i, j, rfl, q⟩ := h
  obtain ⟨u, w', rfl, ⟨t, rfl⟩, ⟨t', rfl⟩⟩ := vals2 r
  refine min_two_strs (I.ok.hd hc) fun h' tk k => ⟨_, H, I.kept k, ?_, q⟩
  by_cases hj : ltS j i = true
  · rw [if_pos hj, if_pos hj]; exact ⟨_, rfl⟩
  · rw [if_neg hj, if_neg hj]; exact ⟨_, rfl⟩
theorem call_max2S {X : Cx} (hc : X.calm = true) : CallR X (.builtin "max") (fun xs H Q => ∃ i j, xs = [.str i, .str j] ∧ Q (.str (if ltS i j = true then j else i)) H) := by
  intro pins s σ H xs us Q I r h
  obtain ⟨i, j, rfl, q⟩ := h
  obtain ⟨u, w', rfl, ⟨t, rfl⟩, ⟨t', rfl⟩⟩ := vals2 r
  refine max_two_strs (I.ok.hd hc) fun h' tk k => ⟨_, H, I.kept k, ?_, q⟩
  by_cases hj : ltS i j = true
  · rw [if_pos hj, if_pos hj]; exact ⟨_, rfl⟩
  · rw [if_neg hj, if_neg hj]; exact ⟨_, rfl⟩
def dMin2S : D → D → Option Cell
  | .str i, .str j => some (.F (.str (if ltS j i = true then j else i)))
  | _, _ => none
def dMax2S : D → D → Option Cell
  | .str i, .str j => some (.F (.str (if ltS i j = true then j else i)))
  | _, _ => none
theorem rul_min2S {X : Cx} : Rul2 X dMin2S (fun x y H Q => ∃ i j, [x, y] = [.str i, .str j] ∧ Q (.str (if ltS j i = true then j else i)) H) := by
  intro F H B W x y da db c Q hF w px py e q
  unfold dMin2S at e
  split at e
  · cases e; exact ⟨_, _, by rw [show x = _ from px, show y = _ from py], q.data w rfl⟩
  · cases e
theorem rul_max2S {X : Cx} : Rul2 X dMax2S (fun x y H Q => ∃ i j, [x, y] = [.str i, .str j] ∧ Q (.str (if ltS i j = true then j else i)) H) := by
  intro F H B W x y da db c Q hF w px py e q
  unfold dMax2S at e
  split at e
  · cases e; exact ⟨_, _, by rw [show x = _ from px, show y = _ from py], q.data w rfl⟩
  · cases e
end G

namespace G
open PySem PySem.Spec PyProof.Rows L2

/-! ### THE READER: expressions to meanings -/
structure FI where
  ms : List Md
  io : Bool
  cal : Cal
structure Tc where
  N : List Str
  sc : Scope
  fn : Str → Bool
  fns : List (Str × FI)
  cs : List (Str × D)
  bl : List Str
  gc : List Str
  fu : Nat
  pin : Bool
def np (fi : FI) : Nat := if fi.io = true then fi.ms.length + 1 else fi.ms.length
/-- the context is as told -/
structure TcOk (X : Cx) (T : Tc) : Prop where
  n : X.N = T.N
  nd : T.N.Nodup
  sc : X.env.scope = T.sc
  kind : T.sc.kind = .function
  fn : ∀ x, T.fn x = true → X.fn x = true
  calm : X.calm = true
  units : X.A.units + 100 < cLine
  fns : ∀ x fi, T.fns.lookup x = some fi → ∃ k f fd ps, FnOk X.prog X.w X.K X.mg X.base CX0 k f fd ps (spG X.K (np fi) fi.io fi.cal) ∧ Room k X.A ∧ X.mg x = some (.ref f) ∧ PySem.W.keepIn X.K (.ref f) = true ∧ Binds X.K fd ps []
  cs : ∀ x d, T.cs.lookup x = some d → ∃ u v, X.mg x = some u ∧ RelV v u ∧ ∀ H B, Rp X.K H B d v
  bl : ∀ x, T.bl.contains x = true → X.mg x = none
  gc : ∀ x, T.gc.contains x = true → X.mg x = some (.builtin "math.gcd")
def ixS : List Str → Str → Option Nat
  | [], _ => none
  | y :: r, x => if y = x then some 0 else (ixS r x).map (· + 1)
theorem ixS_get : ∀ {N : List Str} {x : Str} {i : Nat}, ixS N x = some i → N[i]? = some x
  | [], _, _, h => by cases h
  | y :: r, x, i, h => by
    unfold ixS at h
    split at h
    · rename_i e
      cases h
      simp [e]
    · cases q : ixS r x with
      | none => rw [q] at h; cases h
      | some j => rw [q] at h; cases h; simpa using ixS_get q
def visB (sc : Scope) (x : Str) : Bool := match sc.names.lookup x with
  | some .local => true
  | some .cell => true
  | some .free => true
  | _ => false
def locB (sc : Scope) (x : Str) : Bool := match sc.names.lookup x with
  | some .local => true
  | some .cell => true
  | _ => false
def lclB (sc : Scope) (x : Str) : Bool := match sc.names.lookup x with
  | some .local => true
  | _ => false
def glB (sc : Scope) (x : Str) : Bool := match sc.names.lookup x with
  | some .globalImplicit => true
  | _ => false
theorem visB_of {sc : Scope} {x : Str} (h : visB sc x = true) : Vis sc x := by
  unfold visB at h
  split at h
  · exact .inl (by assumption)
  · exact .inr (.inl (by assumption))
  · exact .inr (.inr (by assumption))
  · cases h
theorem locB_of {sc : Scope} {x : Str} (h : locB sc x = true) : Loc sc x := by
  unfold locB at h
  split at h
  · exact .inl (by assumption)
  · exact .inr (by assumption)
  · cases h
theorem lclB_of {sc : Scope} {x : Str} (h : lclB sc x = true) : sc.names.lookup x = some .local := by
  unfold lclB at h
  split at h
  · assumption
  · cases h
theorem glB_of {sc : Scope} {x : Str} (h : glB sc x = true) : sc.names.lookup x = some .globalImplicit := by
  unfold glB at h
  split at h
  · assumption
  · cases h
/-- a name of ours: its slot -/
def varT (T : Tc) (x : Str) : Option Nat := if (okName x && visB T.sc x) = true then ixS T.N x else none
def glT (T : Tc) (x : Str) : Bool := okName x && glB T.sc x
section
variable {X : Cx} {T : Tc} {x : Str} {i : Nat}
theorem TcOk.gl (O : TcOk X T) (h : glT T x = true) : Gl X x ∧ okName x = true := by
  unfold glT at h
  rw [Bool.and_eq_true] at h
  exact ⟨by show X.env.scope.names.lookup x = _; rw [O.sc]; exact glB_of h.2, h.1⟩
theorem TcOk.var (O : TcOk X T) (h : varT T x = some i) : X.N[i]? = some x ∧ Vis X.env.scope x ∧ okName x = true := by
  unfold varT at h
  split at h
  · rename_i q
    rw [Bool.and_eq_true] at q
    exact ⟨by rw [O.n]; exact ixS_get h, by rw [O.sc]; exact visB_of q.2, q.1⟩
  · cases h
end

/-! ### operators -/
def op2 : Operator → Option (D → D → Option Cell)
  | .Add => some dAdd
  | .Sub => some dSub
  | .Mult => some dMul
  | .FloorDiv => some dDiv
  | .Mod => some dMod
  | .Pow => some dPow
  | _ => none
def cm2 : CmpOp → Option (D → D → Option Cell)
  | .Eq => some dEq
  | .NotEq => some dNe
  | .Lt => some dLt
  | .LtE => some dLe
  | .Gt => some dGt
  | .GtE => some dGe
  | .Is => some dIs
  | .IsNot => some dIsNot
  | .In => some dIn
  | .NotIn => some dNotIn
def cmS : CmpOp → Option (D → D → Option Cell)
  | .In => some dInS
  | .NotIn => some dNotInS
  | _ => none
def noSet : Expr → Bool
  | .Set .. => false
  | _ => true
theorem noSet_mark {op : CmpOp} {b : Expr} (h : noSet b = true) : behindInMarks op b = false := by
  cases b <;> first | rfl | cases h
theorem noSet_fold {b : Expr} (h : noSet b = true) (env : PySem.Env) : ∀ x, foldedSetIterable b env x = pure x := fun x => by
  cases b <;> first | rfl | cases h
def plainB : Expr → Bool
  | .Slice .. => false
  | _ => true
section
variable {X : Cx} {T : Tc} {e a b : Expr} {f g : Sem1} {pos p : Pos} {x : Str}
theorem se_bin {o : Operator} {op : D → D → Option Cell} (h : op2 o = some op) (ha : SE X a f) (hb : SE X b g) : SE X (.BinOp a o b pos) (s2 op f g) := by
  unfold op2 at h
  split at h <;> cases h
  · exact se_2 (fun _ _ h k => pe_op op_addG h k) ha hb rul_add
  · exact se_2 (fun _ _ h k => pe_op op_sub h k) ha hb rul_sub
  · exact se_2 (fun _ _ h k => pe_op op_mulG2 h k) ha hb rul_mul
  · exact se_2 (fun _ _ h k => pe_op op_divG h k) ha hb rul_div
  · exact se_2 (fun _ _ h k => pe_op op_mod h k) ha hb rul_mod
  · exact se_2 (fun _ _ h k => pe_op op_pow h k) ha hb rul_pow
theorem cmpR (hu : X.A.units + 64 < cLine) {o : CmpOp} {op : D → D → Option Cell} (h : cm2 o = some op) : ∃ r : R2, OpR X (compareOp o) r ∧ Rul2 X op r := by
  unfold cm2 at h
  split at h <;> cases h
  · exact ⟨_, op_eqG hu, rul_eq⟩
  · exact ⟨_, op_neG hu, rul_ne⟩
  · exact ⟨_, op_ltG, rul_lt⟩
  · exact ⟨_, op_le, rul_le⟩
  · exact ⟨_, op_gt, rul_gt⟩
  · exact ⟨_, op_ge, rul_ge⟩
  · exact ⟨_, op_isG, rul_is⟩
  · exact ⟨_, op_isNotG, rul_isNot⟩
  · exact ⟨_, op_inG hu, rul_in⟩
  · exact ⟨_, op_notInG hu, rul_notIn⟩
theorem se_cmp (hu : X.A.units + 64 < cLine) {o : CmpOp} {op : D → D → Option Cell} (h : cm2 o = some op) (hn : noSet b = true) (ha : SE X a f) (hb : SE X b g) : SE X (.Compare a [o] [b] pos) (s2 op f g) := by
  obtain ⟨r, h1, h2⟩ := cmpR hu h
  exact se_2 (fun _ _ h k => pe_cmpR h1 h k (noSet_mark hn)) ha hb h2
theorem cmpS {X : Cx} {o : CmpOp} {op : D → D → Option Cell} (h : cmS o = some op) : ∃ r : R2, OpR X (compareOp o) r ∧ Rul2 X op r := by
  unfold cmS at h
  split at h <;> cases h
  · exact ⟨_, op_in_str, rul_inS⟩
  · exact ⟨_, op_notin_str, rul_notInS⟩
theorem se_cmpS {o : CmpOp} {op : D → D → Option Cell} (h : cmS o = some op) (hn : noSet b = true) (ha : SE X a f) (hb : SE X b g) : SE X (.Compare a [o] [b] pos) (s2 op f g) := by
  obtain ⟨r, h1, h2⟩ := cmpS (X := X) h
  exact se_2 (fun _ _ h k => pe_cmpR h1 h k (noSet_mark hn)) ha hb h2
theorem st_cmpS {o : CmpOp} {op : D → D → Option Cell} (h : cmS o = some op) (hn : noSet b = true) (ha : SE X a f) (hb : SE X b g) : ST X (.Compare a [o] [b] pos) (asB (s2 op f g)) := by
  obtain ⟨r, h1, h2⟩ := cmpS (X := X) h
  exact st_cmp (fun _ _ h k => pt_cmpR h1 h k (noSet_mark hn)) ha hb h2
def cmAll (o : CmpOp) (f g : Sem1) : Option Sem1 := match cm2 o, cmS o with
  | some op, some op' => some (sAlt (s2 op f g) (s2 op' f g))
  | some op, none => some (s2 op f g)
  | _, _ => none
theorem se_cmAll (hu : X.A.units + 64 < cLine) {o : CmpOp} {k : Sem1} (h : cmAll o f g = some k) (hn : noSet b = true) (ha : SE X a f) (hb : SE X b g) : SE X (.Compare a [o] [b] pos) k := by
  unfold cmAll at h
  split at h
  · rename_i op op' e1 e2
    cases h
    exact se_alt (se_cmp hu e1 hn ha hb) (se_cmpS e2 hn ha hb)
  · rename_i op e1 e2
    cases h
    exact se_cmp hu e1 hn ha hb
  · cases h
theorem st_alt {X : Cx} {e : Expr} {f g : Sem1} (hf : ST X e (asB f)) (hg : ST X e (asB g)) : ST X e (asB (sAlt f g)) := fun F hF => ⟨fun pins s σ H Q I ⟨Γ, B, W, b, Γ', S, ee, q⟩ => by
  unfold asB sAlt at ee
  cases h : f Γ with
  | some r =>
    rw [h] at ee
    exact (hf F hF).run pins s σ H Q I ⟨Γ, B, W, b, Γ', S, by unfold asB; rw [h]; exact ee, q⟩
  | none =>
    rw [h] at ee
    exact (hg F hF).run pins s σ H Q I ⟨Γ, B, W, b, Γ', S, ee, q⟩⟩
theorem st_cmp' (hu : X.A.units + 64 < cLine) {o : CmpOp} {op : D → D → Option Cell} (h : cm2 o = some op) (hn : noSet b = true) (ha : SE X a f) (hb : SE X b g) : ST X (.Compare a [o] [b] pos) (asB (s2 op f g)) := by
  obtain ⟨r, h1, h2⟩ := cmpR hu h
  exact st_cmp (fun _ _ h k => pt_cmpR h1 h k (noSet_mark hn)) ha hb h2
theorem st_cmAll (hu : X.A.units + 64 < cLine) {o : CmpOp} {k : Sem1} (h : cmAll o f g = some k) (hn : noSet b = true) (ha : SE X a f) (hb : SE X b g) : ST X (.Compare a [o] [b] pos) (asB k) := by
  unfold cmAll at h
  split at h
  · rename_i op op' e1 e2
    cases h
    exact st_alt (st_cmp' hu e1 hn ha hb) (st_cmpS e2 hn ha hb)
  · rename_i op e1 e2
    cases h
    exact st_cmp' hu e1 hn ha hb
  · cases h
theorem se_neg (ha : SE X a f) : SE X (.UnaryOp .USub a pos) (s1 dNeg f) := se_1 (fun _ h => pe_un un_neg h) ha rul_neg
theorem plain_ix (h : plainB b = true) : PlainIx b := by
  intro o i
  cases b <;> first | rfl | cases h
theorem se_ixx (h : plainB b = true) (ha : SE X a f) (hb : SE X b g) : SE X (.Subscript a b pos) (s2 dIx f g) := se_2 (fun _ _ h' k => pe_ix ix_seq h' k (plain_ix h)) ha hb rul_ix

/-! ### built-in names -/
def b1 (x : Str) : Option (D → Option Cell) :=
  if x = "len" then some dLen else if x = "int" then some dInt else if x = "abs" then some dAbs else if x = "str" then some dStr else if x = "list" then some dList else if x = "tuple" then some dTuple else
  if x = "sum" then some dSum else if x = "all" then some dAll else if x = "any" then some dAny else if x = "max" then some dMax else if x = "min" then some dMin else if x = "sorted" then some dSorted else none
def b1s (x : Str) : Option (D → Option Cell) := if x = "sorted" then some dSortedS else if x = "int" then some dIntS else none
def b2 (x : Str) : Option (D → D → Option Cell) := if x = "max" then some dMax2 else if x = "min" then some dMin2 else none
theorem se_bl1 (hc : X.calm = true) {op : D → Option Cell} (h : b1 x = some op) (hm : X.mg x = none) (hg : Gl X x) (ha : SE X a f) (hn : notStar a = true) : SE X (.Call (.Name x p) [a] [] pos) (s1 op f) := by
  unfold b1 at h
  split at h
  · rename_i e; subst e; cases h; exact se_b1 call_len hg hm (by decide +kernel) (by decide +kernel) ha hn rul_len
  split at h
  · rename_i e; subst e; cases h; exact se_t1 call_int1 hg hm (by decide +kernel) (by decide +kernel) ha hn rul_int
  split at h
  · rename_i e; subst e; cases h; exact se_b1 call_abs hg hm (by decide +kernel) (by decide +kernel) ha hn rul_abs
  split at h
  · rename_i e; subst e; cases h; exact se_t1 call_str_int hg hm (by decide +kernel) (by decide +kernel) ha hn rul_str
  split at h
  · rename_i e; subst e; cases h; exact se_t1 call_list_of hg hm (by decide +kernel) (by decide +kernel) ha hn rul_list
  split at h
  · rename_i e; subst e; cases h; exact se_t1 call_tuple_of hg hm (by decide +kernel) (by decide +kernel) ha hn rul_tuple
  split at h
  · rename_i e; subst e; cases h; exact se_b1 (cr_sum hc) hg hm (by decide +kernel) (by decide +kernel) ha hn rul_sum
  split at h
  · rename_i e; subst e; cases h; exact se_b1 (cr_all hc) hg hm (by decide +kernel) (by decide +kernel) ha hn rul_all
  split at h
  · rename_i e; subst e; cases h; exact se_b1 (cr_any hc) hg hm (by decide +kernel) (by decide +kernel) ha hn rul_any
  split at h
  · rename_i e; subst e; cases h; exact se_b1 (cr_max hc) hg hm (by decide +kernel) (by decide +kernel) ha hn rul_max
  split at h
  · rename_i e; subst e; cases h; exact se_b1 (cr_min hc) hg hm (by decide +kernel) (by decide +kernel) ha hn rul_min
  split at h
  · rename_i e; subst e; cases h; exact se_b1 cr_sortedI hg hm (by decide +kernel) (by decide +kernel) ha hn rul_sorted
  cases h
theorem se_bl1s {op : D → Option Cell} (h : b1s x = some op) (hm : X.mg x = none) (hg : Gl X x) (ha : SE X a f) (hn : notStar a = true) : SE X (.Call (.Name x p) [a] [] pos) (s1 op f) := by
  unfold b1s at h
  split at h
  · rename_i e; subst e; cases h; exact se_b1 cr_sortedS hg hm (by decide +kernel) (by decide +kernel) ha hn rul_sortedS
  split at h
  · rename_i e; subst e; cases h; exact se_t1 call_intS hg hm (by decide +kernel) (by decide +kernel) ha hn rul_intS
  cases h
def b2s (x : Str) : Option (D → D → Option Cell) := if x = "max" then some dMax2S else if x = "min" then some dMin2S else none
def b2All (x : Str) (f g : Sem1) : Option Sem1 := match b2 x, b2s x with
  | some op, some op' => some (sAlt (s2 op f g) (s2 op' f g))
  | _, _ => none
/-- a built-in of one argument: for numbers and lists, else for texts -/
def b1All (x : Str) (f : Sem1) : Option Sem1 := match b1 x, b1s x with
  | some op, some op' => some (sAlt (s1 op f) (s1 op' f))
  | some op, none => some (s1 op f)
  | none, some op => some (s1 op f)
  | none, none => none
theorem se_bl1All (hc : X.calm = true) {g : Sem1} (h : b1All x f = some g) (hm : X.mg x = none) (hg : Gl X x) (ha : SE X a f) (hn : notStar a = true) : SE X (.Call (.Name x p) [a] [] pos) g := by
  unfold b1All at h
  split at h
  · rename_i op op' e1 e2
    cases h
    exact se_alt (se_bl1 hc e1 hm hg ha hn) (se_bl1s e2 hm hg ha hn)
  · rename_i op e1 e2
    cases h
    exact se_bl1 hc e1 hm hg ha hn
  · rename_i op e1 e2
    cases h
    exact se_bl1s e2 hm hg ha hn
  · cases h
theorem se_bl2 (hc : X.calm = true) {op : D → D → Option Cell} (h : b2 x = some op) (hm : X.mg x = none) (hg : Gl X x) (ha : SE X a f) (hb : SE X b g) (hn : notStar a = true) (hn2 : notStar b = true) : SE X (.Call (.Name x p) [a, b] [] pos) (s2 op f g) := by
  unfold b2 at h
  split at h
  · rename_i e; subst e; cases h; exact se_b2 (call_max2 hc) hg hm (by decide +kernel) (by decide +kernel) ha hb hn hn2 rul_max2
  split at h
  · rename_i e; subst e; cases h; exact se_b2 (call_min2 hc) hg hm (by decide +kernel) (by decide +kernel) ha hb hn hn2 rul_min2
  cases h
theorem se_b2All (hc : X.calm = true) {k : Sem1} (h : b2All x f g = some k) (hm : X.mg x = none) (hg : Gl X x) (ha : SE X a f) (hb : SE X b g) (hn : notStar a = true) (hn2 : notStar b = true) : SE X (.Call (.Name x p) [a, b] [] pos) k := by
  unfold b2All at h
  split at h
  · rename_i op op' e1 e2
    cases h
    refine se_alt (se_bl2 hc e1 hm hg ha hb hn hn2) ?_
    unfold b2s at e2
    split at e2
    · rename_i e; subst e; cases e2; exact se_b2 (call_max2S hc) hg hm (by decide +kernel) (by decide +kernel) ha hb hn hn2 rul_max2S
    split at e2
    · rename_i e; subst e; cases e2; exact se_b2 (call_min2S hc) hg hm (by decide +kernel) (by decide +kernel) ha hb hn hn2 rul_min2S
    cases e2
  · cases h
def tyB (c : Str) : Option String := if c = "int" then some "int" else if c = "str" then some "str" else if c = "list" then some "list" else if c = "tuple" then some "tuple" else if c = "dict" then some "dict" else if c = "bool" then some "bool" else none
theorem se_isiB {c : Str} {t : String} {pc : Pos} (h : tyB c = some t) (hg : Gl X "isinstance") (hm : X.mg "isinstance" = none) (hgc : Gl X c) (hmc : X.mg c = none) (ha : SE X a f) (hn : notStar a = true) : SE X (.Call (.Name "isinstance" p) [a, .Name c pc] [] pos) (s1 (dIsi t) f) := by
  unfold tyB at h
  split at h
  · rename_i e; subst e; cases h; exact se_isi hg hm hgc hmc (by decide +kernel) (by decide +kernel) (by decide) ha hn
  split at h
  · rename_i e; subst e; cases h; exact se_isi hg hm hgc hmc (by decide +kernel) (by decide +kernel) (by decide) ha hn
  split at h
  · rename_i e; subst e; cases h; exact se_isi hg hm hgc hmc (by decide +kernel) (by decide +kernel) (by decide) ha hn
  split at h
  · rename_i e; subst e; cases h; exact se_isi hg hm hgc hmc (by decide +kernel) (by decide +kernel) (by decide) ha hn
  split at h
  · rename_i e; subst e; cases h; exact se_isi hg hm hgc hmc (by decide +kernel) (by decide +kernel) (by decide) ha hn
  split at h
  · rename_i e; subst e; cases h; exact se_isi hg hm hgc hmc (by decide +kernel) (by decide +kernel) (by decide) ha hn
  cases h
end

/-! ### the reader -/
structure Rec where
  E : Tc → Expr → Option Sem1
  B : Tc → Expr → Option SemB
  G : Tc → Expr → Option (List Nat × SemT)
def asL (l : List Nat) : As := fun j => l.contains j
def lstA (E : Expr → Option Sem1) : List Expr → Option SemA
  | [] => some aNil
  | e :: es => if notStar e = true then match E e, lstA E es with
    | some f, some fs => some (aCons f fs)
    | _, _ => none
    else none
def lstI (E : Expr → Option Sem1) : List Md → List Expr → Option SemI
  | [], [] => some iNil
  | m :: ms, e :: es => if notStar e = true then match E e, lstI E ms es with
    | some f, some fs => some (iCons m f fs)
    | _, _ => none
    else none
  | _, _ => none
def optO (E : Expr → Option Sem1) : Option Expr → Option SemO
  | none => some oNone
  | some e => (E e).map oSome
def boolV (E : Expr → Option Sem1) (op : BoolOp) : List Expr → Option Sem1
  | [] => none
  | [a] => E a
  | a :: b :: r => match E a, boolV E op (b :: r) with
    | some f, some g => some (match op with
      | .And => sAndV f g
      | .Or => sOrV f g)
    | _, _ => none
def boolB (B : Expr → Option SemB) (op : BoolOp) : List Expr → Option SemB
  | [] => none
  | [a] => B a
  | a :: b :: r => match B a, boolB B op (b :: r) with
    | some f, some g => some (match op with
      | .And => sAndB f g
      | .Or => sOrB f g)
    | _, _ => none
def constT : Const → Option D
  | .none => some .none
  | .bool b => some (.bool b)
  | .int i => some (.int i)
  | .str x => some (.str x)
  | _ => none
def callT (E : Expr → Option Sem1) (T : Tc) (x : Str) (args : List Expr) : Option Sem1 :=
  if glT T x = true then match T.fns.lookup x with
    | some fi => if fi.io = true then match args with
        | a :: as => (lstI E (.lk :: fi.ms) (a :: as)).map (sCallO fi.cal fi.ms)
        | [] => none
      else (lstI E fi.ms args).map (sCall fi.cal fi.ms)
    | none => if T.gc.contains x = true then match args with
        | [a, b] => if (notStar a && notStar b) = true then match E a, E b with
          | some f, some g => some (s2 dGcd f g)
          | _, _ => none
          else none
        | _ => none
      else if T.bl.contains x = true then match args with
        | [a] => if notStar a = true then match E a with
          | some f => b1All x f
          | none => none
          else none
        | [a, b] => if (notStar a && notStar b) = true then
            if x = "isinstance" then match b with
              | .Name c _ => if (glT T c && T.bl.contains c) = true then match tyB c, E a with
                | some t, some f => some (s1 (dIsi t) f)
                | _, _ => none
                else none
              | _ => none
            else match E a, E b with
              | some f, some g => b2All x f g
              | _, _ => none
          else none
        | _ => none
      else none
  else none
def methT (E : Expr → Option Sem1) (T : Tc) (x m : Str) (args : List Expr) : Option Sem1 := match varT T x with
  | none => none
  | some i => match args with
    | [] => if m = "pop" then some (sPop i) else none
    | [a] => if notStar a = true then match E a with
        | some f => if m = "append" then some (sApp i f) else if m = "extend" then some (sExt i f) else if m = "pop" then some (sPopAt i f) else none
        | none => none
      else none
    | _ => none
def baseB : Expr → Bool
  | .Call (.Name _ _) [] [] _ => false
  | _ => true
theorem base_ok {o : Expr} (h : baseB o = true) (m : Str) (env : PySem.Env) (w : Sem Value) : attributeBase o m env w = w := by
  unfold attributeBase
  split
  · cases h
  · rfl
/-- methods that change nothing -/
def look1 (m : Str) : Option ((D → Bool) × (D → D → Option Cell)) := if m = "index" then some (isL, dIndex) else if m = "split" then some (isS, dSplit) else if m = "join" then some (isS, dJoin) else none
def lookT (E : Expr → Option Sem1) (o : Expr) (m : Str) (args : List Expr) : Option Sem1 := if baseB o = true then match args with
    | [a] => if notStar a = true then match look1 m, E o, E a with
      | some (ok, op), some f, some g => some (sM1 ok op f g)
      | _, _, _ => none
      else none
    | _ => none
  else none
def mutM (m : Str) : Bool := m == "append" || m == "extend" || m == "pop"
def mthT (E : Expr → Option Sem1) (T : Tc) (o : Expr) (m : Str) (args : List Expr) : Option Sem1 := if mutM m = true then match o with
    | .Name x _ => methT E T x m args
    | _ => none
  else lookT E o m args
def srcT (E : Expr → Option Sem1) (T : Tc) (it : Expr) : Option SemR := match it with
  | .Call (.Name x _) args [] _ => if x = "range" then
      if (glT T x && T.bl.contains x && args.all notStar) = true then match args, lstA E args with
        | [_], some f => some (rRg1 f)
        | [_, _], some f => some (rRg2 f)
        | [_, _, _], some f => some (rRg3 f)
        | _, _ => none
      else none
    else (E it).map rSq
  | it => (E it).map rSq
def Tc.blk (T : Tc) (scope : Scope) : Tc := { T with sc := relS scope T.sc, fn := fun x => scope.names.lookup x == some .cell }
def ownOf (N : List Str) (scope : Scope) : List (Str × Nat) := scope.names.filterMap fun y => match y.2 with
  | .local => (ixS N y.1).map fun i => (y.1, i)
  | .cell => (ixS N y.1).map fun i => (y.1, i)
  | _ => none
def ifsT (B : Expr → Option SemB) : List Expr → Option SemB
  | [] => some bYes
  | [c] => B c
  | _ => none
structure LcT where
  fI : SemR
  l : List Nat
  g : SemT
  t : SemB
  e : Sem1
def lcT (r : Rec) (T : Tc) (elt tg it : Expr) (ifs : List Expr) (scope : Scope) : Option LcT :=
  if (blkC T.N T.sc scope (ownOf T.N scope) && noSet it) = true then match srcT (r.E T) T it, r.G (T.blk scope) tg, ifsT (r.B (T.blk scope)) ifs, r.E (T.blk scope) elt with
    | some fI, some (l, g), some t, some e => if l.all (fun j => ((ownOf T.N scope).map (·.2)).contains j) = true then some ⟨fI, l, g, t, e⟩ else none
    | _, _, _, _ => none
  else none
def stepE (r : Rec) (T : Tc) (e : Expr) : Option Sem1 := match e with
  | .Name x _ => match varT T x with
    | some i => some (sVar i)
    | none => if glT T x = true then (T.cs.lookup x).map sData else none
  | .Constant c _ _ => (constT c).map sData
  | .Tuple es _ _ => (lstA (r.E T) es).map sTup
  | .List es _ => (lstA (r.E T) es).map sLst
  | .BinOp a o b _ => match op2 o, r.E T a, r.E T b with
    | some op, some f, some g => some (s2 op f g)
    | _, _, _ => none
  | .UnaryOp .USub a _ => (r.E T a).map (s1 dNeg)
  | .UnaryOp .Not a _ => (r.E T a).map sNotV
  | .BoolOp op vs _ => boolV (r.E T) op vs
  | .IfExp c a b _ => match r.B T c, r.E T a, r.E T b with
    | some c, some f, some g => some (sIte c f g)
    | _, _, _ => none
  | .Compare a [o] [b] _ => if noSet b = true then match r.E T a, r.E T b with
    | some f, some g => cmAll o f g
    | _, _ => none
    else none
  | .Compare a [o, o'] [b, c] _ => if (noSet b && noSet c) = true then match cm2 o, cm2 o', r.E T a, r.E T b, r.E T c with
    | some op, some op', some f, some g, some h => some (sChain op op' f g h)
    | _, _, _, _, _ => none
    else none
  | .Subscript a (.Slice lo hi none _) _ => match r.E T a, optO (r.E T) lo, optO (r.E T) hi with
    | some f, some l, some h => some (sSl f l h)
    | _, _, _ => none
  | .Subscript a b _ => if plainB b = true then match r.E T a, r.E T b with
    | some f, some g => some (s2 dIx f g)
    | _, _ => none
    else none
  | .Call (.Name x _) args [] _ => callT (r.E T) T x args
  | .Call (.Attribute o m apos) args [] pos => if (apos.endLine == pos.line) = true then mthT (r.E T) T o m args else none
  | .ListComp elt [⟨tg, it, ifs, 0⟩] scope _ => (lcT r T elt tg it ifs scope).map fun c => sLc c.fI c.g c.t c.e ((ownOf T.N scope).map (·.2))
  | _ => none
def stepB (r : Rec) (T : Tc) (e : Expr) : Option SemB := match e with
  | .UnaryOp .Not a _ => (r.B T a).map sNotB
  | .BoolOp op vs _ => boolB (r.B T) op vs
  | .Compare a [o] [b] _ => if noSet b = true then match r.E T a, r.E T b with
    | some f, some g => (cmAll o f g).map asB
    | _, _ => none
    else none
  | .Compare a [o, o'] [b, c] _ => if (noSet b && noSet c) = true then match cm2 o, cm2 o', r.E T a, r.E T b, r.E T c with
    | some op, some op', some f, some g, some h => some (asB (sChain op op' f g h))
    | _, _, _, _, _ => none
    else none
  | .Compare .. => none
  | .IfExp .. => none
  | e => (r.E T e).map sTru
def lstG (G : Expr → Option (List Nat × SemT)) : List Expr → Option (List Nat × SemTs)
  | [] => some ([], gsNil)
  | e :: es => if notStar e = true then match G e, lstG G es with
    | some (l, f), some (ls, fs) => some (l ++ ls, gsCons f fs)
    | _, _ => none
    else none
def stepG (r : Rec) (T : Tc) (e : Expr) : Option (List Nat × SemT) := match e with
  | .Name x _ => match varT T x with
    | some i => if (locB T.sc x && (T.fn x || lclB T.sc x)) = true then some ([i], gNm i) else none
    | none => none
  | .Tuple es _ _ => match lstG (r.G T) es with
    | some (l, gs) => some (l, gTp es.length gs)
    | none => none
  | .Subscript (.Name x _) b _ => if plainB b = true then match varT T x, r.E T b with
    | some i, some f => some ([], gIx i f)
    | _, _ => none
    else none
  | _ => none
def tr : Nat → Rec
  | 0 => ⟨fun _ _ => none, fun _ _ => none, fun _ _ => none⟩
  | n + 1 => ⟨stepE (tr n), stepB (tr n), stepG (tr n)⟩

/-! ### the reader is right -/
structure Snd (r : Rec) : Prop where
  E : ∀ X T, TcOk X T → ∀ e f, r.E T e = some f → SE X e f
  B : ∀ X T, TcOk X T → ∀ e f, r.B T e = some f → ST X e f
  G : ∀ X T, TcOk X T → ∀ e l g, r.G T e = some (l, g) → SG X e (asL l) g
theorem SG.mono {X : Cx} {e : Expr} {as bs : As} {g : SemT} (h : SG X e as g) (k : ∀ j, as j = true → bs j = true) : SG X e bs g := fun F hF => gimp (h F hF) fun v σ H Q ⟨hl, H0, B0, W0, Γ, B, W, c, Γ', S, E, V, e, q⟩ =>
  ⟨hl, H0, B0, W0, Γ, B, W, c, Γ', S, E, V, e, fun σ' H' B' W' E' S' l' A' => q σ' H' B' W' E' S' l' fun j hj => A' j (by cases ha : as j with
    | false => rfl
    | true => rw [k j ha] at hj; cases hj)⟩
theorem SGs.mono {X : Cx} {e : List Expr} {as bs : As} {g : SemTs} (h : SGs X e as g) (k : ∀ j, as j = true → bs j = true) : SGs X e bs g := fun F hF => gsimp (h F hF) fun v σ H Q ⟨hl, Γ, B, W, c, Γ', S, E, e, q⟩ =>
  ⟨hl, Γ, B, W, c, Γ', S, E, e, fun σ' H' B' W' E' S' l' A' => q σ' H' B' W' E' S' l' fun j hj => A' j (by cases ha : as j with
    | false => rfl
    | true => rw [k j ha] at hj; cases hj)⟩
theorem SS.mono {X : Cx} {e : Stmt} {as bs : As} {g : SemS} (h : SS X e as g) (k : ∀ j, as j = true → bs j = true) : SS X e bs g := fun F hF => simp' (h F hF) fun D σ H ⟨hl, Γ, B, W, c, Γ', S, e, q⟩ =>
  ⟨hl, Γ, B, W, c, Γ', S, e, fun σ' H' B' W' E' S' l' A' => q σ' H' B' W' E' S' l' fun j hj => A' j (by cases ha : as j with
    | false => rfl
    | true => rw [k j ha] at hj; cases hj)⟩
theorem SSs.mono {X : Cx} {e : List Stmt} {as bs : As} {g : SemS} (h : SSs X e as g) (k : ∀ j, as j = true → bs j = true) : SSs X e bs g := fun F hF => ssimp (h F hF) fun D σ H ⟨hl, Γ, B, W, c, Γ', S, e, q⟩ =>
  ⟨hl, Γ, B, W, c, Γ', S, e, fun σ' H' B' W' E' S' l' A' => q σ' H' B' W' E' S' l' fun j hj => A' j (by cases ha : as j with
    | false => rfl
    | true => rw [k j ha] at hj; cases hj)⟩
theorem asL_no {j : Nat} (h : aNo j = true) : asL [] j = true := by cases h
theorem asL_one {i j : Nat} (h : aOne i j = true) : asL [i] j = true := by
  have : j = i := by simpa [aOne] using h
  subst this
  simp [asL]
theorem asL_or {l m : List Nat} {j : Nat} (h : aOr (asL l) (asL m) j = true) : asL (l ++ m) j = true := by
  unfold aOr at h
  rw [Bool.or_eq_true] at h
  unfold asL at *
  rw [List.contains_eq_mem] at *
  rw [List.contains_eq_mem] at h
  simp only [decide_eq_true_eq] at *
  exact List.mem_append.mpr h
theorem assign_plain {env : PySem.Env} : ∀ {e : Expr} {es : List Expr}, notStar e = true → assignEach (e :: es) env = (false, assign e env) :: assignEach es env
  | e, es, h => by cases e <;> first | rfl | cases h
theorem assign_all {env : PySem.Env} : ∀ {es : List Expr}, es.all notStar = true → (assignEach es env).length = es.length ∧ (assignEach es env).findIdx? (·.1) = none
  | [], _ => ⟨rfl, rfl⟩
  | e :: es, h => by
    rw [List.all_cons, Bool.and_eq_true] at h
    obtain ⟨a, b⟩ := assign_all (env := env) h.2
    rw [assign_plain h.1]
    refine ⟨by simp [a], ?_⟩
    rw [List.findIdx?_cons]
    simp [b]
theorem TcOk.blk {X : Cx} {T : Tc} (O : TcOk X T) {scope : Scope} (hk : scope.kind = .function) : Blk X scope fun Y => TcOk Y (T.blk scope) := fun s H C cl fp =>
  ⟨O.n, O.nd, by show relS scope X.env.scope = relS scope T.sc; rw [O.sc], hk, fun x h => h, O.calm, O.units, O.fns, O.cs, O.bl, O.gc⟩
section
variable {X : Cx} {T : Tc} {r : Rec}
theorem lstA_ok (O : TcOk X T) (R : Snd r) : ∀ {es : List Expr} {f : SemA}, lstA (r.E T) es = some f → SA X es f
  | [], f, h => by cases h; exact sa_nil
  | e :: es, f, h => by
    unfold lstA at h
    split at h
    · rename_i hn
      split at h
      · rename_i f fs e1 e2
        cases h
        exact sa_cons (R.E X T O _ _ e1) (lstA_ok O R e2) hn
      · cases h
    · cases h
theorem lstI_ok (O : TcOk X T) (R : Snd r) : ∀ {ms : List Md} {es : List Expr} {f : SemI}, lstI (r.E T) ms es = some f → SI X es f ∧ es.all notStar = true
  | [], [], f, h => by cases h; exact ⟨si_nil, rfl⟩
  | m :: ms, e :: es, f, h => by
    unfold lstI at h
    split at h
    · rename_i hn
      split at h
      · rename_i f fs e1 e2
        cases h
        obtain ⟨a, b⟩ := lstI_ok O R e2
        exact ⟨si_cons (R.E X T O _ _ e1) a hn, by rw [List.all_cons, hn, b]; rfl⟩
      · cases h
    · cases h
  | [], _ :: _, _, h => by cases h
  | _ :: _, [], _, h => by cases h
theorem optO_ok (O : TcOk X T) (R : Snd r) {e : Option Expr} {f : SemO} (h : optO (r.E T) e = some f) : SO X e f := by
  cases e with
  | none => cases h; exact so_none
  | some e =>
    have h' : (r.E T e).map oSome = some f := h
    cases q : r.E T e with
    | none => rw [q] at h'; cases h'
    | some g => rw [q] at h'; cases h'; exact so_some (R.E X T O _ _ q)
theorem boolV_ok (O : TcOk X T) (R : Snd r) {op : BoolOp} {pos : Pos} : ∀ {es : List Expr} {f : Sem1}, boolV (r.E T) op es = some f → SE X (.BoolOp op es pos) f
  | [], f, h => by cases h
  | [a], f, h => se_one (R.E X T O _ _ h)
  | a :: b :: es, f, h => by
    unfold boolV at h
    split at h
    · rename_i f g e1 e2
      cases h
      have ha := R.E X T O _ _ e1
      have hb := boolV_ok O R (pos := pos) e2
      cases op with
      | And => exact se_andV ha hb
      | Or => exact se_orV ha hb
    · cases h
theorem boolB_ok (O : TcOk X T) (R : Snd r) {op : BoolOp} {pos : Pos} : ∀ {es : List Expr} {f : SemB}, boolB (r.B T) op es = some f → SW X (.BoolOp op es pos) f
  | [], f, h => by cases h
  | [a], f, h => by
    cases op with
    | And => exact sw_and1 (R.B X T O _ _ h)
    | Or => exact sw_or1 (R.B X T O _ _ h)
  | a :: b :: es, f, h => by
    unfold boolB at h
    split at h
    · rename_i f g e1 e2
      cases h
      have ha := R.B X T O _ _ e1
      have hb := boolB_ok O R (pos := pos) e2
      cases op with
      | And => exact sw_and ha hb
      | Or => exact sw_or ha hb
    · cases h

theorem map_some {α β : Type} {o : Option α} {f : α → β} {b : β} (h : o.map f = some b) : ∃ a, o = some a ∧ f a = b := by
  cases o with
  | none => cases h
  | some a => cases h; exact ⟨a, rfl, rfl⟩
theorem callT_ok (O : TcOk X T) (R : Snd r) {x : Str} {p pos : Pos} {args : List Expr} {f : Sem1} (h : callT (r.E T) T x args = some f) : SE X (.Call (.Name x p) args [] pos) f := by
  unfold callT at h
  split at h
  · rename_i hg
    obtain ⟨g1, g2⟩ := O.gl hg
    split at h
    · rename_i fi hfi
      obtain ⟨k, fa, fd, ps, F0, hr, hm, hk, hb⟩ := O.fns x fi hfi
      split at h
      · rename_i hio
        split at h
        · rename_i a as
          obtain ⟨fs, e1, e2⟩ := map_some h
          subst e2
          obtain ⟨h1, h2⟩ := lstI_ok O R e1
          have F0' : FnOk X.prog X.w X.K X.mg X.base CX0 k fa fd ps (spG X.K (fi.ms.length + 1) true fi.cal) := by
            have e : np fi = fi.ms.length + 1 := if_pos hio
            rw [← e, ← hio]; exact F0
          exact se_callO F0' hr g1 hm hk hb g2 h1 h2
        · cases h
      · rename_i hio
        have F0' : FnOk X.prog X.w X.K X.mg X.base CX0 k fa fd ps (spG X.K fi.ms.length false fi.cal) := by
          have e : np fi = fi.ms.length := if_neg hio
          have e' : fi.io = false := by simpa using hio
          rw [← e, ← e']; exact F0
        obtain ⟨fs, e1, e2⟩ := map_some h
        subst e2
        obtain ⟨h1, h2⟩ := lstI_ok O R e1
        cases args with
        | nil =>
          cases hms : fi.ms with
          | nil =>
            rw [hms] at e1 F0'
            cases e1
            exact se_call0 F0' hr g1 hm hk hb g2
          | cons m ms => rw [hms] at e1; cases e1
        | cons a as => exact se_call F0' hr g1 hm hk hb g2 h1 h2
    · split at h
      · rename_i hgc
        split at h
        · rename_i a b
          split at h
          · rename_i hn
            rw [Bool.and_eq_true] at hn
            split at h
            · rename_i f g e1 e2
              cases h
              exact se_g2 cr_gcd g1 (O.gc x hgc) g2 (R.E X T O _ _ e1) (R.E X T O _ _ e2) hn.1 hn.2 rul_gcd
            · cases h
          · cases h
        · cases h
      · split at h
        · rename_i hbl
          have hm := O.bl x hbl
          split at h
          · rename_i a
            split at h
            · rename_i hn
              split at h
              · rename_i f e2
                exact se_bl1All O.calm h hm g1 (R.E X T O _ _ e2) hn
              · cases h
            · cases h
          · rename_i a b
            split at h
            · rename_i hn
              rw [Bool.and_eq_true] at hn
              split at h
              · rename_i hx
                subst hx
                split at h
                · rename_i c pc
                  split at h
                  · rename_i hc
                    rw [Bool.and_eq_true] at hc
                    split at h
                    · rename_i t f e1 e2
                      cases h
                      exact se_isiB e1 g1 hm (O.gl hc.1).1 (O.bl c hc.2) (R.E X T O _ _ e2) hn.1
                    · cases h
                  · cases h
                · cases h
              · split at h
                · rename_i f g e2 e3
                  exact se_b2All O.calm h hm g1 (R.E X T O _ _ e2) (R.E X T O _ _ e3) hn.1 hn.2
                · cases h
            · cases h
          · cases h
        · cases h
  · cases h
theorem methT_ok (O : TcOk X T) (R : Snd r) {x m : Str} {p apos cpos : Pos} {args : List Expr} {f : Sem1} (hl : (apos.endLine == cpos.line) = true) (h : methT (r.E T) T x m args = some f) : SE X (.Call (.Attribute (.Name x p) m apos) args [] cpos) f := by
  unfold methT at h
  split at h
  · cases h
  · rename_i i hi
    obtain ⟨v1, v2, v3⟩ := O.var hi
    split at h
    · split at h
      · rename_i hm; subst hm; cases h; exact se_pop v1 v2 v3 hl
      · cases h
    · rename_i a
      split at h
      · rename_i hn
        split at h
        · rename_i g eg
          have hg := R.E X T O _ _ eg
          split at h
          · rename_i hm; subst hm; cases h; exact se_app v1 v2 v3 hg hn hl
          split at h
          · rename_i hm; subst hm; cases h; exact se_ext v1 v2 v3 hg hn hl
          split at h
          · rename_i hm; subst hm; cases h; exact se_popAt v1 v2 v3 hg hn hl
          cases h
        · cases h
      · cases h
    · cases h
theorem look1_ok (hu : X.A.units + 65 < cLine) {m : Str} {ok : D → Bool} {op : D → D → Option Cell} (h : look1 m = some (ok, op)) {o a : Expr} {f g : Sem1} {apos cpos : Pos} (ho : SE X o f) (ha : SE X a g) (hn : notStar a = true) (hl : (apos.endLine == cpos.line) = true) (hb : baseB o = true) :
    SE X (.Call (.Attribute o m apos) [a] [] cpos) (sM1 ok op f g) := by
  unfold look1 at h
  split at h
  · rename_i e; subst e; cases h
    exact se_m1 PySem.F.plainAttrs_list PySem.F.slot_list_index PySem.F.type_list_index (mt_indexD hu) ty_isL rul_index ho ha hn hl (base_ok hb _ _ _)
  · split at h
    · rename_i e; subst e; cases h
      exact se_m1 PySem.F.plainAttrs_str PySem.F.slot_str_split PySem.F.type_str_split mt_split ty_isS rul_split ho ha hn hl (base_ok hb _ _ _)
    · split at h
      · rename_i e; subst e; cases h
        exact se_m1 PySem.F.plainAttrs_str PySem.F.slot_str_join PySem.F.type_str_join mt_join ty_isS rul_join ho ha hn hl (base_ok hb _ _ _)
      · cases h
theorem mthT_ok (O : TcOk X T) (R : Snd r) {m : Str} {o : Expr} {apos cpos : Pos} {args : List Expr} {f : Sem1} (hl : (apos.endLine == cpos.line) = true) (h : mthT (r.E T) T o m args = some f) : SE X (.Call (.Attribute o m apos) args [] cpos) f := by
  unfold mthT at h
  split at h
  · split at h
    · exact methT_ok O R hl h
    · cases h
  · unfold lookT at h
    split at h
    · rename_i hb
      split at h
      · split at h
        · rename_i hn
          split at h
          · rename_i ok op f g e1 e2 e3
            cases h
            exact look1_ok (by have := O.units; omega) e1 (R.E X T O _ _ e2) (R.E X T O _ _ e3) hn hl hb
          · cases h
        · cases h
      · cases h
    · cases h
theorem srcT_ok (O : TcOk X T) (R : Snd r) {it tg : Expr} {f : SemR} (h : srcT (r.E T) T it = some f) : SR X tg it f := by
  unfold srcT at h
  split at h
  · rename_i x p args pos
    split at h
    · rename_i hx
      subst hx
      split at h
      · rename_i hc
        simp only [Bool.and_eq_true] at hc
        obtain ⟨⟨hg, hb⟩, hn⟩ := hc
        obtain ⟨g1, g2⟩ := O.gl hg
        have hm := O.bl _ hb
        split at h
        · rename_i a f ef
          cases h
          have hs := lstA_ok O R ef
          simp only [List.all_cons, List.all_nil, Bool.and_eq_true] at hn
          exact sr_rg1 g1 hm hs hn.1
        · rename_i a b f ef
          cases h
          have hs := lstA_ok O R ef
          simp only [List.all_cons, List.all_nil, Bool.and_eq_true] at hn
          exact sr_rg2 g1 hm hs hn.1 hn.2.1
        · rename_i a b c f ef
          cases h
          have hs := lstA_ok O R ef
          simp only [List.all_cons, List.all_nil, Bool.and_eq_true] at hn
          exact sr_rg3 g1 hm hs hn.1 hn.2.1 hn.2.2.1
        · cases h
      · cases h
    · obtain ⟨g, e1, e2⟩ := map_some h
      subst e2
      exact sr_sq (R.E X T O _ _ e1)
  · obtain ⟨g, e1, e2⟩ := map_some h
    subst e2
    exact sr_sq (R.E X T O _ _ e1)
theorem ifsT_ok (O : TcOk X T) (R : Snd r) {ifs : List Expr} {f : SemB} (h : ifsT (r.B T) ifs = some f) : STs X ifs f := by
  unfold ifsT at h
  split at h
  · cases h; exact sts_nil
  · exact sts_one (R.B X T O _ _ h)
  · cases h
structure LcOk (X : Cx) (T : Tc) (elt tg it : Expr) (ifs : List Expr) (scope : Scope) (c : LcT) : Prop where
  hi : SR X tg it c.fI
  ok : BlkOk X.N X.env.scope scope (ownOf T.N scope)
  hag : ∀ j, asL c.l j = true → j ∈ (ownOf T.N scope).map (·.2)
  hg : Blk X scope fun Y => SG Y tg (asL c.l) c.g
  ht : Blk X scope fun Y => STs Y ifs c.t
  he : Blk X scope fun Y => SE Y elt c.e
  hs : ∀ x, foldedSetIterable it X.env x = pure x
theorem lcT_ok (O : TcOk X T) (R : Snd r) {elt tg it : Expr} {ifs : List Expr} {scope : Scope} {c : LcT} (h : lcT r T elt tg it ifs scope = some c) : LcOk X T elt tg it ifs scope c := by
  unfold lcT at h
  split at h
  · rename_i hb
    rw [Bool.and_eq_true] at hb
    split at h
    · rename_i fI l g t e e1 e2 e3 e4
      split at h
      · rename_i hl
        cases h
        have ok : BlkOk X.N X.env.scope scope (ownOf T.N scope) := by rw [O.n, O.sc]; exact blkOk_by hb.1
        have OB := O.blk ok.kind
        refine ⟨srcT_ok O R e1, ok, fun j hj => ?_, fun s H C cl fp => R.G _ _ (OB s H C cl fp) _ _ _ e2, fun s H C cl fp => ifsT_ok (OB s H C cl fp) R e3, fun s H C cl fp => R.E _ _ (OB s H C cl fp) _ _ e4, noSet_fold hb.2 _⟩
        have hj' : j ∈ l := by
          unfold asL at hj
          simpa using hj
        have := List.all_eq_true.mp hl j hj'
        simpa using this
      · cases h
    · cases h
  · cases h
theorem stepE_ok (O : TcOk X T) (R : Snd r) {e : Expr} {f : Sem1} (h : stepE r T e = some f) : SE X e f := by
  unfold stepE at h
  split at h
  · -- Name
    split at h
    · rename_i i hi
      cases h
      obtain ⟨v1, v2, v3⟩ := O.var hi
      exact se_var (pe_rcv v1 v2 v3)
    · split at h
      · rename_i hg
        obtain ⟨g1, g2⟩ := O.gl hg
        obtain ⟨d, e1, e2⟩ := map_some h
        subst e2
        obtain ⟨u, v, hm, rv, hr⟩ := O.cs _ _ e1
        exact se_data (pe_glob g1 hm rv (okName_d g2)) hr
      · cases h
  · -- Constant
    obtain ⟨d, e1, e2⟩ := map_some h
    subst e2
    unfold constT at e1
    split at e1 <;> cases e1
    · exact se_data pe_non fun _ _ => rfl
    · exact se_data pe_bl fun _ _ => rfl
    · exact se_data pe_int fun _ _ => rfl
    · exact se_data pe_str fun _ _ => rfl
  · obtain ⟨d, e1, e2⟩ := map_some h
    subst e2
    exact se_tup (lstA_ok O R e1)
  · obtain ⟨d, e1, e2⟩ := map_some h
    subst e2
    exact se_lst (lstA_ok O R e1)
  · split at h
    · rename_i op f g e1 e2 e3
      cases h
      exact se_bin e1 (R.E X T O _ _ e2) (R.E X T O _ _ e3)
    · cases h
  · obtain ⟨d, e1, e2⟩ := map_some h
    subst e2
    exact se_neg (R.E X T O _ _ e1)
  · obtain ⟨d, e1, e2⟩ := map_some h
    subst e2
    exact se_not (R.E X T O _ _ e1)
  · exact boolV_ok O R h
  · split at h
    · rename_i c f g e1 e2 e3
      cases h
      exact se_ite (R.B X T O _ _ e1) (R.E X T O _ _ e2) (R.E X T O _ _ e3)
    · cases h
  · split at h
    · rename_i hn
      split at h
      · rename_i f g e2 e3
        exact se_cmAll (by have := O.units; omega) h hn (R.E X T O _ _ e2) (R.E X T O _ _ e3)
      · cases h
    · cases h
  · split at h
    · rename_i hn
      rw [Bool.and_eq_true] at hn
      split at h
      · rename_i op op' f g k e1 e2 e3 e4 e5
        cases h
        obtain ⟨r1, a1, b1⟩ := cmpR (X := X) (by have := O.units; omega) e1
        obtain ⟨r2, a2, b2⟩ := cmpR (X := X) (by have := O.units; omega) e2
        exact se_chain a1 a2 b1 b2 (R.E X T O _ _ e3) (R.E X T O _ _ e4) (R.E X T O _ _ e5) (noSet_mark hn.2)
      · cases h
    · cases h
  · split at h
    · rename_i f l g e1 e2 e3
      cases h
      exact se_sl (R.E X T O _ _ e1) (optO_ok O R e2) (optO_ok O R e3)
    · cases h
  · split at h
    · rename_i hp
      split at h
      · rename_i f g e1 e2
        cases h
        exact se_ixx hp (R.E X T O _ _ e1) (R.E X T O _ _ e2)
      · cases h
    · cases h
  · exact callT_ok O R h
  · split at h
    · rename_i hl
      exact mthT_ok O R hl h
    · cases h
  · obtain ⟨c, e1, e2⟩ := map_some h
    subst e2
    have L := lcT_ok O R e1
    exact se_lc O.calm (by rw [O.n]; exact O.nd) L.hi L.ok L.hag L.hg L.ht L.he L.hs
  · cases h
theorem stepB_ok (O : TcOk X T) (R : Snd r) {e : Expr} {f : SemB} (h : stepB r T e = some f) : ST X e f := by
  unfold stepB at h
  split at h
  · obtain ⟨d, e1, e2⟩ := map_some h
    subst e2
    exact st_not (R.B X T O _ _ e1)
  · exact (boolB_ok O R h).st
  · split at h
    · rename_i hn
      split at h
      · rename_i f g e2 e3
        obtain ⟨k, e4, e5⟩ := map_some h
        subst e5
        exact st_cmAll (by have := O.units; omega) e4 hn (R.E X T O _ _ e2) (R.E X T O _ _ e3)
      · cases h
    · cases h
  · split at h
    · rename_i hn
      rw [Bool.and_eq_true] at hn
      split at h
      · rename_i op op' f g k e1 e2 e3 e4 e5
        cases h
        obtain ⟨r1, a1, b1⟩ := cmpR (X := X) (by have := O.units; omega) e1
        obtain ⟨r2, a2, b2⟩ := cmpR (X := X) (by have := O.units; omega) e2
        exact st_chain a1 a2 b1 b2 (R.E X T O _ _ e3) (R.E X T O _ _ e4) (R.E X T O _ _ e5) (noSet_mark hn.2)
      · cases h
    · cases h
  · cases h
  · cases h
  · rename_i n1 n2 n3 n3' n4 n5
    obtain ⟨d, e1, e2⟩ := map_some h
    subst e2
    refine st_tru (fun whole => ?_) (R.E X T O _ _ e1)
    cases e with
    | UnaryOp op a p => cases op <;> first | rfl | exact absurd rfl (n1 _ _)
    | BoolOp op a p => exact absurd rfl (n2 _ _ _)
    | Compare a b c p => exact absurd rfl (n4 _ _ _ _)
    | IfExp a b c p => exact absurd rfl (n5 _ _ _ _)
    | _ => rfl
theorem lstG_ok (O : TcOk X T) (R : Snd r) : ∀ {es : List Expr} {l : List Nat} {f : SemTs}, lstG (r.G T) es = some (l, f) → SGs X es (asL l) f ∧ es.all notStar = true
  | [], l, f, h => by cases h; exact ⟨sgs_nil.mono fun j => asL_no, rfl⟩
  | e :: es, l, f, h => by
    unfold lstG at h
    split at h
    · rename_i hn
      split at h
      · rename_i l1 f1 l2 f2 e1 e2
        cases h
        obtain ⟨a, b⟩ := lstG_ok O R e2
        refine ⟨(sgs_cons (R.G X T O _ _ _ e1) a ?_).mono fun j => asL_or, by rw [List.all_cons, hn, b]; rfl⟩
        rw [assign_plain hn]
        rfl
      · cases h
    · cases h
theorem asg_sub {o b : Expr} {pos : Pos} {env : PySem.Env} {v : Value} (h : plainB b = true) : assign (.Subscript o b pos) env v = (do
      let ov ← holding [v] (eval o env)
      let iv ← holding [v, ov] (eval b env)
      standAt pos
      holding [v, ov, iv] (setItem ov iv v)
      release [v, ov, iv] []) := by
  cases b <;> first | rfl | exact Bool.noConfusion h
theorem stepG_ok (O : TcOk X T) (R : Snd r) {e : Expr} {l : List Nat} {f : SemT} (h : stepG r T e = some (l, f)) : SG X e (asL l) f := by
  have nd : X.N.Nodup := by rw [O.n]; exact O.nd
  unfold stepG at h
  split at h
  · split at h
    · rename_i i hi
      split at h
      · rename_i hb
        cases h
        rw [Bool.and_eq_true, Bool.or_eq_true] at hb
        obtain ⟨v1, v2, v3⟩ := O.var hi
        refine (sg_nm nd v1 (by rw [O.sc]; exact locB_of hb.1) ?_).mono fun j => asL_one
        rcases hb.2 with q | q
        · exact .inl (O.fn _ q)
        · exact .inr (by rw [O.sc]; exact lclB_of q)
      · cases h
    · cases h
  · split at h
    · rename_i l gs e1
      cases h
      obtain ⟨a, b⟩ := lstG_ok O R e1
      obtain ⟨c, d⟩ := assign_all (env := X.env) b
      exact sg_tp O.calm a c d
    · cases h
  · split at h
    · rename_i hp
      split at h
      · rename_i i f e1 e2
        cases h
        obtain ⟨v1, v2, v3⟩ := O.var e1
        refine (sg_ix v1 v2 v3 (R.E X T O _ _ e2) fun v => asg_sub hp).mono fun j => asL_no
      · cases h
    · cases h
  · cases h
theorem step_ok (R : Snd r) : Snd ⟨stepE r, stepB r, stepG r⟩ := ⟨fun X T O e f h => stepE_ok O R h, fun X T O e f h => stepB_ok O R h, fun X T O e l g h => stepG_ok O R h⟩
theorem tr_ok : ∀ n, Snd (tr n)
  | 0 => ⟨fun _ _ _ _ _ h => (by cases h), fun _ _ _ _ _ h => (by cases h), fun _ _ _ _ _ _ h => (by cases h)⟩
  | n + 1 => step_ok (tr_ok n)
end
end G

namespace G
open PySem PySem.Spec PyProof.Rows L2

/-! ### the reader: statements -/
def compScope : Expr → Option Scope
  | .ListComp _ _ s _ => some s
  | .SetComp _ _ s _ => some s
  | .DictComp _ _ _ s _ => some s
  | _ => none
def swL (sc : Scope) (t : Str) (pos : Pos) (e : Expr) : Bool := match compScope e with
  | none => false
  | some scope => sc.names.lookup t == some .local && pos.line == e.pos.line && !(scope.names.any fun (n, k) => n == t && (k == .local || k == .cell))
theorem block_fn {env : PySem.Env} (hk : env.scope.kind = .function) : env.blockKind = .function := by
  unfold PySem.Env.blockKind
  rw [hk]; rfl
theorem swL_ok {env : PySem.Env} (hk : env.scope.kind = .function) {t : Str} {pos : Pos} {e : Expr} {l : Nat} : swapsWith e (some (.Name t pos)) l env = pure (swL env.scope t pos e) := by
  have hb := block_fn hk
  unfold swapsWith swL compScope
  cases e <;> first | rfl | (simp only [hb]; rfl)
theorem sw_none {env : PySem.Env} {e : Expr} {l : Nat} (h : compScope e = none) : swapsWith e none l env = pure false := by
  cases e <;> first | rfl | cases h
theorem sw_tup {env : PySem.Env} {e : Expr} {l : Nat} {ts : List Expr} {k : Nat} {p : Pos} : swapsWith e (some (.Tuple ts k p)) l env = pure false := by
  cases e <;> rfl
theorem sw_sub {env : PySem.Env} {e : Expr} {l : Nat} {a b : Expr} {p : Pos} : swapsWith e (some (.Subscript a b p)) l env = pure false := by
  cases e <;> rfl
theorem sws_tup {env : PySem.Env} {e : Expr} {l : Nat} {ts : List Expr} {k : Nat} {p : Pos} : swapsWithSole [.Tuple ts k p] e l env = pure false := sw_tup (env := env) (e := e) (l := l) (ts := ts) (k := k) (p := p)
theorem sws_sub {env : PySem.Env} {e : Expr} {l : Nat} {a b : Expr} {p : Pos} : swapsWithSole [.Subscript a b p] e l env = pure false := sw_sub (env := env) (e := e) (l := l) (a := a) (b := b) (p := p)
def tupOf : Expr → Option (List Expr)
  | .Tuple vs _ _ => some vs
  | _ => none
theorem sto_plain {env : PySem.Env} {e : Expr} {ts : List Expr} {k : Nat} {p : Pos} (h : tupOf e = none) : swappedStores [.Tuple ts k p] e env = pure none := by
  cases e <;> first | rfl | cases h
theorem sto_sub {env : PySem.Env} {e a b : Expr} {p : Pos} : swappedStores [.Subscript a b p] e env = pure none := by
  cases e <;> rfl
def starB : Expr → Bool
  | .Starred .. => true
  | _ => false
def nameF (sc : Scope) (line : Nat) : Expr → Option Str
  | .Name id pos => if (sc.names.lookup id == some .local && pos.line == line) = true then some id else none
  | _ => none
def lineOf (ts : List Expr) : Nat := (ts.head?.map (·.pos.line)).getD 0
def swN (sc : Scope) (ts vs : List Expr) : Option (Option (List Str)) :=
  if (!(ts.length == 2 || ts.length == 3) || vs.length != ts.length) = true then some none
  else if vs.any starB = true then some none
  else if ((ts.filterMap (nameF sc (lineOf ts))).length != ts.length || (ts.filterMap (nameF sc (lineOf ts))).eraseDups.length != (ts.filterMap (nameF sc (lineOf ts))).length) = true then some none
  else if vs.all (foldedForSure 8) = true then some none
  else if vs.all (constantsAlone 8) = true then none
  else some (some (ts.filterMap (nameF sc (lineOf ts))))
theorem sto_eq {env : PySem.Env} {ts vs : List Expr} {k k2 : Nat} {p p2 : Pos} : swappedStores [.Tuple ts k p] (.Tuple vs k2 p2) env =
    (if (!(ts.length == 2 || ts.length == 3) || vs.length != ts.length || env.blockKind != .function) = true then pure none
    else if vs.any starB = true then pure none
    else if ((ts.filterMap (nameF env.scope (lineOf ts))).length != ts.length || (ts.filterMap (nameF env.scope (lineOf ts))).eraseDups.length != (ts.filterMap (nameF env.scope (lineOf ts))).length) = true then pure none
    else if vs.all (foldedForSure 8) = true then pure none
    else if vs.all (constantsAlone 8) = true then (do
      unsupported "assign.tuple-of-constant-expressions:order-of-the-stores"
      pure (some (ts.filterMap (nameF env.scope (lineOf ts)))))
    else pure (some (ts.filterMap (nameF env.scope (lineOf ts))))) := rfl
theorem swN_ok {env : PySem.Env} (hk : env.scope.kind = .function) {ts vs : List Expr} {k k2 : Nat} {p p2 : Pos} {r : Option (List Str)} (h : swN env.scope ts vs = some r) : swappedStores [.Tuple ts k p] (.Tuple vs k2 p2) env = pure r := by
  have hb := block_fn hk
  rw [sto_eq, hb]
  have e : (ScopeKind.function != ScopeKind.function) = false := by decide
  rw [e, Bool.or_false]
  unfold swN at h
  split at h
  · rename_i c; cases h; rw [if_pos c]
  · rename_i c
    rw [if_neg c]
    split at h
    · rename_i c2; cases h; rw [if_pos c2]
    · rename_i c2
      rw [if_neg c2]
      split at h
      · rename_i c3; cases h; rw [if_pos c3]
      · rename_i c3
        rw [if_neg c3]
        split at h
        · rename_i c4; cases h; rw [if_pos c4]
        · rename_i c4
          rw [if_neg c4]
          split at h
          · cases h
          · rename_i c5; cases h; rw [if_neg c5]
theorem aOr_self {l : List Nat} : aOr (asL l) (asL l) = asL l := funext fun j => Bool.or_self _
def lstS (S : Stmt → Option (List Nat × SemS)) : List Stmt → Option (List Nat × SemS)
  | [] => some ([], cNil)
  | s :: ss => match S s, lstS S ss with
    | some (l, f), some (m, g) => some (l ++ m, cSeq f g)
    | _, _ => none
/-- name = e -/
def setT (r : Rec) (T : Tc) (x : Str) (p : Pos) (e : Expr) : Option (List Nat × SemS) := match varT T x with
  | none => none
  | some i => if swL T.sc x p e = true then match e with
      | .ListComp elt [⟨tg, it, ifs, 0⟩] scope _ => if lclB T.sc x = true then (lcT r T elt tg it ifs scope).map fun c => ([i], cAsg (sLc c.fI c.g c.t c.e ((ownOf T.N scope).map (·.2))) (gNm i)) else none
      | _ => none
    else if (locB T.sc x && (T.fn x || lclB T.sc x)) = true then (r.E T e).map fun f => ([i], cAsg f (gNm i)) else none
def tgtT (r : Rec) (T : Tc) (tg e : Expr) : Option (List Nat × SemS) := match r.E T e, r.G T tg with
  | some f, some (l, g) => some (l, cAsg f g)
  | _, _ => none
def unpT (r : Rec) (T : Tc) (ts : List Expr) (e : Expr) : Option (List Nat × SemS) := match r.E T e, lstG (r.G T) ts with
  | some f, some (l, gs) => some (l, cUnp ts.length gs f)
  | _, _ => none
def asg2T (r : Rec) (T : Tc) (x y : Str) (e : Expr) : Option (List Nat × SemS) := if (tupOf e).isNone = true then match varT T x, varT T y, r.E T e with
  | some i, some j, some f => if (locB T.sc x && (T.fn x || lclB T.sc x) && (locB T.sc y && (T.fn y || lclB T.sc y))) = true then some ([i, j], cAsg2 f i j) else none
  | _, _, _ => none
  else none
def parT (r : Rec) (T : Tc) (ts vs : List Expr) : Option (List Nat × SemS) := match ts, vs with
  | [.Name x _, .Name y _], [a, b] => match varT T x, varT T y, lstA (r.E T) [a, b] with
    | some i, some j, some f => if (lclB T.sc x && lclB T.sc y && !(i == j)) = true then some ([i, j], cPar i j f) else none
    | _, _, _ => none
  | [.Name x _, .Name y _, .Name z _], [a, b, c] => match varT T x, varT T y, varT T z, lstA (r.E T) [a, b, c] with
    | some i, some j, some k, some f => if (lclB T.sc x && lclB T.sc y && lclB T.sc z && !(i == j) && !(i == k) && !(j == k)) = true then some ([i, j, k], cPar3 i j k f) else none
    | _, _, _, _ => none
  | _, _ => none
def namesOf : List Expr → List Str
  | .Name x _ :: r => x :: namesOf r
  | _ => []
def asgT (r : Rec) (T : Tc) (tg e : Expr) : Option (List Nat × SemS) := match tg with
  | .Name x p => setT r T x p e
  | .Tuple ts _ _ => match tupOf e with
    | none => unpT r T ts e
    | some vs => match swN T.sc ts vs with
      | none => none
      | some none => unpT r T ts e
      | some (some ns) => if ns = namesOf ts then parT r T ts vs else none
  | .Subscript .. => tgtT r T tg e
  | _ => none
def stepS (r : Rec) (S : Tc → Stmt → Option (List Nat × SemS)) (T : Tc) (st : Stmt) : Option (List Nat × SemS) := match st with
  | .Expr e _ => if (compScope e).isNone = true then (r.E T e).map fun f => ([], cExp f) else none
  | .Return none _ => some ([], cRetN)
  | .Return (some e) _ => (r.E T e).map fun f => ([], cRet T.pin f)
  | .Pass _ => some ([], cNil)
  | .Break _ => some ([], cBk)
  | .Continue _ => some ([], cCt)
  | .If c p q _ => match r.B T c, lstS (S T) p, lstS (S T) q with
    | some c, some (l, f), some (m, g) => some (l ++ m, cIf c f g)
    | _, _, _ => none
  | .For tg it body [] _ => if noSet it = true then match srcT (r.E T) T it, r.G T tg, lstS (S T) body with
    | some fI, some (l, g), some (m, b) => some (l ++ m, cFor (asL (l ++ m)) fI g b)
    | _, _, _ => none
    else none
  | .While c body [] _ => match r.B T c, lstS (S T) body with
    | some c, some (l, b) => some (l, whF c b T.fu)
    | _, _ => none
  | .Assign [tg] e _ => asgT r T tg e
  | .Assign [.Name x _, .Name y _] e _ => asg2T r T x y e
  | _ => none
/-- a statement that can't be read has no meaning -/
def orDead : Option (List Nat × SemS) → Option (List Nat × SemS)
  | some r => some r
  | none => some ([], cDead)
def trS : Nat → Tc → Stmt → Option (List Nat × SemS)
  | 0 => fun _ _ => none
  | n + 1 => fun T st => orDead (stepS (tr n) (trS n) T st)
/-! ### it is right -/
structure Sns (S : Tc → Stmt → Option (List Nat × SemS)) : Prop where
  s : ∀ X T, TcOk X T → PassesOwn (model X.prog X.w) X.A X.env X.xe → ∀ st l f, S T st = some (l, f) → SS X st (asL l) f
section
variable {X : Cx} {T : Tc} {r : Rec} {S : Tc → Stmt → Option (List Nat × SemS)}
theorem lstS_ok (O : TcOk X T) (hp : PassesOwn (model X.prog X.w) X.A X.env X.xe) (R : Sns S) : ∀ {ss : List Stmt} {l : List Nat} {f : SemS}, lstS (S T) ss = some (l, f) → SSs X ss (asL l) f
  | [], l, f, h => by cases h; exact ss_nil.mono fun j => asL_no
  | s :: ss, l, f, h => by
    unfold lstS at h
    split at h
    · rename_i l1 f1 l2 f2 e1 e2
      cases h
      exact (ss_cons (R.s X T O hp _ _ _ e1) (lstS_ok O hp R e2)).mono fun j => asL_or
    · cases h
theorem setT_ok (O : TcOk X T) (R : Snd r) {x : Str} {p pos : Pos} {e : Expr} {l : List Nat} {f : SemS} (h : setT r T x p e = some (l, f)) : SS X (.Assign [.Name x p] e pos) (asL l) f := by
  have nd : X.N.Nodup := by rw [O.n]; exact O.nd
  have hk : X.env.scope.kind = .function := by rw [O.sc]; exact O.kind
  unfold setT at h
  split at h
  · cases h
  · rename_i i hi
    obtain ⟨v1, v2, v3⟩ := O.var hi
    split at h
    · rename_i hs
      split at h
      · rename_i elt tg it ifs scope p2
        split at h
        · rename_i hl
          obtain ⟨c, e1, e2⟩ := map_some h
          cases e2
          have L := lcT_ok O R e1
          exact (ss_setLc O.calm nd v1 (by rw [O.sc]; exact lclB_of hl) (by rw [swL_ok hk, O.sc, hs]) L.hi L.ok L.hag L.hg L.ht L.he L.hs).mono fun j => asL_one
        · cases h
      · cases h
    · rename_i hs
      split at h
      · rename_i hb
        obtain ⟨g, e1, e2⟩ := map_some h
        cases e2
        rw [Bool.and_eq_true, Bool.or_eq_true] at hb
        have hs' : swL T.sc x p e = false := by simpa using hs
        refine (ss_set nd v1 (by rw [O.sc]; exact locB_of hb.1) ?_ (R.E X T O _ _ e1) (by rw [swL_ok hk, O.sc, hs'])).mono fun j => asL_one
        rcases hb.2 with q | q
        · exact .inl (O.fn _ q)
        · exact .inr (by rw [O.sc]; exact lclB_of q)
      · cases h
theorem tgtT_ok (O : TcOk X T) (R : Snd r) {tg e : Expr} {pos : Pos} {l : List Nat} {f : SemS} (h : tgtT r T tg e = some (l, f)) (hs : swapsWithSole [tg] e pos.line X.env = pure false) (hw : swappedStores [tg] e X.env = pure none) (hn : notStar tg = true) :
    SS X (.Assign [tg] e pos) (asL l) f := by
  unfold tgtT at h
  split at h
  · rename_i f l g e1 e2
    cases h
    exact ss_asg (R.E X T O _ _ e1) (R.G X T O _ _ _ e2) hs hw (by rw [assign_plain hn]; rfl)
  · cases h
theorem unpT_ok (O : TcOk X T) (R : Snd r) {ts : List Expr} {k : Nat} {p pos : Pos} {e : Expr} {l : List Nat} {f : SemS} (h : unpT r T ts e = some (l, f)) (hw : swappedStores [.Tuple ts k p] e X.env = pure none) :
    SS X (.Assign [.Tuple ts k p] e pos) (asL l) f := by
  unfold unpT at h
  split at h
  · rename_i f l gs e1 e2
    cases h
    obtain ⟨a, b⟩ := lstG_ok O R e2
    obtain ⟨c, d⟩ := assign_all (env := X.env) b
    exact ss_unp (R.E X T O _ _ e1) O.calm a c d sws_tup hw (by rw [assign_plain (show notStar (.Tuple ts k p) = true from rfl)]; rfl)
  · cases h
theorem sto_two {env : PySem.Env} {e : Expr} {x y : Str} {p q : Pos} (h : (tupOf e).isNone = true) : swappedStores [.Name x p, .Name y q] e env = pure none := by
  cases e <;> first | rfl | cases h
theorem asL_two {i j k : Nat} (h : aOr (aOne i) (aOne j) k = true) : asL [i, j] k = true := by
  unfold aOr at h
  rw [Bool.or_eq_true] at h
  rcases h with h | h
  · have : k = i := by simpa [aOne] using h
    subst this; simp [asL]
  · have : k = j := by simpa [aOne] using h
    subst this; simp [asL]
theorem asL_three {i j l k : Nat} (h : aOr (aOr (aOne i) (aOne j)) (aOne l) k = true) : asL [i, j, l] k = true := by
  unfold aOr at h
  rw [Bool.or_eq_true, Bool.or_eq_true] at h
  rcases h with (h | h) | h
  · have : k = i := by simpa [aOne] using h
    subst this; simp [asL]
  · have : k = j := by simpa [aOne] using h
    subst this; simp [asL]
  · have : k = l := by simpa [aOne] using h
    subst this; simp [asL]
theorem parT_ok (O : TcOk X T) (R : Snd r) {ts vs : List Expr} {k k2 : Nat} {p p2 pos : Pos} {l : List Nat} {f : SemS} (h : parT r T ts vs = some (l, f)) (hw : swappedStores [.Tuple ts k p] (.Tuple vs k2 p2) X.env = pure (some (namesOf ts))) :
    SS X (.Assign [.Tuple ts k p] (.Tuple vs k2 p2) pos) (asL l) f := by
  have nd : X.N.Nodup := by rw [O.n]; exact O.nd
  unfold parT at h
  split at h
  · split at h
    · rename_i i j f e1 e2 e3
      split at h
      · rename_i hb
        cases h
        simp only [Bool.and_eq_true, Bool.not_eq_true', beq_eq_false_iff_ne] at hb
        obtain ⟨⟨b1, b2⟩, b3⟩ := hb
        obtain ⟨v1, _, _⟩ := O.var e1
        obtain ⟨w1, _, _⟩ := O.var e2
        exact (ss_par O.calm nd v1 w1 b3 (by rw [O.sc]; exact lclB_of b1) (by rw [O.sc]; exact lclB_of b2) (lstA_ok O R e3) hw sws_tup).mono fun j => asL_two
      · cases h
    · cases h
  · split at h
    · rename_i i j m f e1 e2 e3 e4
      split at h
      · rename_i hb
        cases h
        simp only [Bool.and_eq_true, Bool.not_eq_true', beq_eq_false_iff_ne] at hb
        obtain ⟨⟨⟨⟨⟨b1, b2⟩, b3⟩, b4⟩, b5⟩, b6⟩ := hb
        obtain ⟨v1, _, _⟩ := O.var e1
        obtain ⟨w1, _, _⟩ := O.var e2
        obtain ⟨u1, _, _⟩ := O.var e3
        exact (ss_par3 O.calm nd v1 w1 u1 b4 b5 b6 (by rw [O.sc]; exact lclB_of b1) (by rw [O.sc]; exact lclB_of b2) (by rw [O.sc]; exact lclB_of b3) (lstA_ok O R e4) hw sws_tup).mono fun j => asL_three
      · cases h
    · cases h
  · cases h
theorem asg2T_ok (O : TcOk X T) (R : Snd r) {x y : Str} {p q pos : Pos} {e : Expr} {l : List Nat} {f : SemS} (h : asg2T r T x y e = some (l, f)) : SS X (.Assign [.Name x p, .Name y q] e pos) (asL l) f := by
  have nd : X.N.Nodup := by rw [O.n]; exact O.nd
  unfold asg2T at h
  split at h
  · rename_i ht
    split at h
    · rename_i i j f hi hj e1
      split at h
      · rename_i hb
        cases h
        simp only [Bool.and_eq_true, Bool.or_eq_true] at hb
        obtain ⟨v1, _, _⟩ := O.var hi
        obtain ⟨w1, _, _⟩ := O.var hj
        refine (ss_asg2 nd v1 w1 (by rw [O.sc]; exact locB_of hb.1.1) (by rw [O.sc]; exact locB_of hb.2.1) ?_ ?_ (R.E X T O _ _ e1) (sto_two ht)).mono fun j => asL_two
        · rcases hb.1.2 with q | q
          · exact .inl (O.fn _ q)
          · exact .inr (by rw [O.sc]; exact lclB_of q)
        · rcases hb.2.2 with q | q
          · exact .inl (O.fn _ q)
          · exact .inr (by rw [O.sc]; exact lclB_of q)
      · cases h
    · cases h
  · cases h
theorem asgT_ok (O : TcOk X T) (R : Snd r) {tg e : Expr} {pos : Pos} {l : List Nat} {f : SemS} (h : asgT r T tg e = some (l, f)) : SS X (.Assign [tg] e pos) (asL l) f := by
  have hk : X.env.scope.kind = .function := by rw [O.sc]; exact O.kind
  unfold asgT at h
  split at h
  · exact setT_ok O R h
  · rename_i ts k p
    split at h
    · rename_i hn
      exact unpT_ok O R h (sto_plain hn)
    · rename_i vs hvs
      have he : ∃ k2 p2, e = .Tuple vs k2 p2 := by
        cases e <;> first | cases hvs; exact ⟨_, _, rfl⟩ | cases hvs
      obtain ⟨k2, p2, rfl⟩ := he
      split at h
      · cases h
      · rename_i hs
        exact unpT_ok O R h (swN_ok hk (by rw [O.sc]; exact hs))
      · rename_i ns hs
        split at h
        · rename_i hns
          subst hns
          exact parT_ok O R h (swN_ok hk (by rw [O.sc]; exact hs))
        · cases h
  · exact tgtT_ok O R h sws_sub sto_sub rfl
  · cases h
theorem stepS_ok (O : TcOk X T) (hp : PassesOwn (model X.prog X.w) X.A X.env X.xe) (R : Snd r) (RS : Sns S) {st : Stmt} {l : List Nat} {f : SemS} (h : stepS r S T st = some (l, f)) : SS X st (asL l) f := by
  unfold stepS at h
  split at h
  · split at h
    · rename_i hn
      obtain ⟨g, e1, e2⟩ := map_some h
      cases e2
      exact (ss_exp (R.E X T O _ _ e1) (sw_none (by simpa using hn))).mono fun j => asL_no
    · cases h
  · cases h; exact ss_retN.mono fun j => asL_no
  · obtain ⟨g, e1, e2⟩ := map_some h
    cases e2
    exact (ss_ret (R.E X T O _ _ e1)).mono fun j => asL_no
  · cases h; exact ss_pass.mono fun j => asL_no
  · cases h; exact ss_bk.mono fun j => asL_no
  · cases h; exact ss_ct.mono fun j => asL_no
  · split at h
    · rename_i c l1 f l2 g e1 e2 e3
      cases h
      exact (ss_if (R.B X T O _ _ e1) (lstS_ok O hp RS e2) (lstS_ok O hp RS e3)).mono fun j => asL_or
    · cases h
  · split at h
    · rename_i hn
      split at h
      · rename_i fI l1 g l2 b e1 e2 e3
        cases h
        have hg : SG X _ (asL (l1 ++ l2)) g := (R.G X T O _ _ _ e2).mono fun j hj => asL_or (by unfold aOr; rw [hj]; rfl)
        have hb : SSs X _ (asL (l1 ++ l2)) b := (lstS_ok O hp RS e3).mono fun j hj => asL_or (by unfold aOr; rw [hj, Bool.or_true])
        rw [show asL (l1 ++ l2) = aOr (asL (l1 ++ l2)) (asL (l1 ++ l2)) from aOr_self.symm]
        exact ss_for hp O.calm (srcT_ok O R e1) hg hb (noSet_fold hn _)
      · cases h
    · cases h
  · split at h
    · rename_i c l b e1 e2
      cases h
      exact ss_while hp (R.B X T O _ _ e1) (lstS_ok O hp RS e2)
    · cases h
  · exact asgT_ok O R h
  · exact asg2T_ok O R h
  · cases h
theorem trS_ok : ∀ n, Sns (trS n)
  | 0 => ⟨fun _ _ _ _ _ _ _ h => (by cases h)⟩
  | n + 1 => ⟨fun X T O hp st l f h => by
    show SS X st (asL l) f
    have h' : orDead (stepS (tr n) (trS n) T st) = some (l, f) := h
    cases e : stepS (tr n) (trS n) T st with
    | some r =>
      rw [e] at h'
      cases h'
      exact stepS_ok O hp (tr_ok n) (trS_ok n) e
    | none =>
      rw [e] at h'
      cases h'
      exact ss_dead.mono fun j => asL_no⟩
end

/-! ### defs -/
def fnCal (n : Nat) (io : Bool) (nN : Nat) (f : SemS) : Cal := fun cs => if cs.length = n then match f (cs.map some ++ List.replicate (nN - n) none) with
    | some (.nx, Γ) => some (.F .none, if io = true then look Γ 0 else none)
    | some (.rt c, Γ) => some (c, if io = true then look Γ 0 else none)
    | _ => none
  else none
theorem look_app {cs : List Cell} {k i : Nat} {c : Cell} (h : look (cs.map some ++ List.replicate k none) i = some c) : cs[i]? = some c := by
  unfold look at h
  by_cases hi : i < cs.length
  · rw [List.getElem?_append_left (by simpa using hi), List.getElem?_map] at h
    cases q : cs[i]? with
    | none => rw [q] at h; cases h
    | some x => rw [q] at h; cases h; rfl
  · rw [List.getElem?_append_right (by simpa using hi), List.getElem?_replicate] at h
    split at h
    · rename_i x e
      split at e
      · cases e; cases h
      · cases e
    · cases h
theorem Ste.begin {F : Fx} {H : Hp} {B W : Ad} {vs : List V} {cs : List Cell} {k m : Nat} (S : Ste F H B W (vs.map some) (cs.map some)) : Ste F H B W (vs.map some ++ List.replicate m none) (cs.map some ++ List.replicate k none) := by
  obtain ⟨R, h1, h2⟩ := S.hold
  have go : ∀ i c, look (cs.map some ++ List.replicate k none) i = some c → look (cs.map some) i = some c := fun i c h => by
    have q := look_app h
    unfold look
    rw [List.getElem?_map, q]; rfl
  have go' : ∀ i, (look (cs.map some ++ List.replicate k none) i).isSome → (look (cs.map some) i).isSome := fun i h => by
    cases q : look (cs.map some ++ List.replicate k none) i with
    | none => rw [q] at h; cases h
    | some c => rw [go i c q]; rfl
  refine ⟨S.wl, R, fun i c h => ?_, fun i j p a b => h2 i j p (go' i a) (go' j b)⟩
  obtain ⟨v, a1, a2⟩ := h1 i c (go i c h)
  refine ⟨v, ?_, a2⟩
  rw [List.getElem?_append_left (List.getElem?_eq_some_iff.mp a1).1]
  exact a1
theorem Ste.first {F : Fx} {H : Hp} {B W : Ad} {σ σ' : Sg} {Γ : Env} (S : Ste F H B W σ' Γ) (h : σ'[0]? = σ[0]?) : Ste F H B W σ [look Γ 0] := by
  obtain ⟨R, h1, h2⟩ := S.hold
  have l0 : ∀ i c, look [look Γ 0] i = some c → i = 0 ∧ look Γ 0 = some c := fun i c h => by
    unfold look at h
    cases i with
    | zero => exact ⟨rfl, h⟩
    | succ i => simp at h
  refine ⟨S.wl, R, fun i c hc => ?_, fun i j p a b _ _ => ?_⟩
  · obtain ⟨e, q⟩ := l0 i c hc
    subst e
    obtain ⟨v, a1, a2⟩ := h1 0 c q
    exact ⟨v, by rw [← h]; exact a1, a2⟩
  · cases q : look [look Γ 0] i with
    | none => rw [q] at a; cases a
    | some c =>
      cases q' : look [look Γ 0] j with
      | none => rw [q'] at b; cases b
      | some c' => rw [(l0 i c q).1, (l0 j c' q').1]
theorem Ste.none {F : Fx} {H : Hp} {B W : Ad} {σ σ' : Sg} {Γ : Env} (S : Ste F H B W σ' Γ) : Ste F H B W σ [] := ⟨S.wl, fun _ => [], fun i c h => (by simp [look] at h), fun i j p a b h => (by cases h)⟩
section
variable {P : Program} {w : World} {K : PySem.W.Frag} {mg : Str → Option Value} {base : Heap}
/-- A DEF IS AS IT IS READ -/
theorem def_ok {x qual : Str} {st : Stmt} {f : Addr} {fd : FuncData} {N ps : List Str} {k n : Nat} {io : Bool} {T : Tc} {l : List Nat} {sem : SemS} (F : Fun K x qual st f fd) (Sc : FnScope N ps (defScope st))
    (hn : ps.length = n) (hsc : T.sc = defScope st) (hN : T.N = N) (hfn : T.fn = fun _ => true) (hb : lstS (trS 60 T) (defBody st) = some (l, sem)) (hio : io = true → asL l 0 = false ∧ 0 < n)
    (hfns : ∀ x fi, T.fns.lookup x = some fi → ∃ f fd ps, FnOk P w K mg base CX0 k f fd ps (spG K (np fi) fi.io fi.cal) ∧ mg x = some (.ref f) ∧ PySem.W.keepIn K (.ref f) = true ∧ Binds K fd ps [])
    (hcs : ∀ x d, T.cs.lookup x = some d → ∃ u v, mg x = some u ∧ RelV v u ∧ ∀ H B, Rp K H B d v) (hbl : ∀ x, T.bl.contains x = true → mg x = none) (hgc : ∀ x, T.gc.contains x = true → mg x = some (.builtin "math.gcd")) :
    FnOk P w K mg base CX0 (k + 1) f fd ps (spG K n io (fnCal n io N.length sem)) := by
  refine F.ok Sc (fun vs H Q E h => by rw [h.1, hn]) (fun cdv A outer s H vs Q E hr h => ?_)
  obtain ⟨hlen, F', B, W, cs, c, o, hK, S, hcl, hcal, q⟩ := h
  have O : TcOk (cxOf CX0 P w K mg base N qual (defScope st) f cdv A outer s H E).nox T := by
    refine ⟨hN.symm, by rw [hN]; exact Sc.nd, hsc.symm, by rw [hsc]; exact Sc.kind, fun _ _ => rfl, rfl, (by have := hr.un; rw [Nat.add_assoc] at this; exact Nat.lt_of_le_of_lt (Nat.add_le_add_left (show 100 ≤ 16 * k + 200 by omega) _) this), fun y fi e => ?_, hcs, hbl, hgc⟩
    obtain ⟨f2, fd2, ps2, h1, h2, h3, h4⟩ := hfns y fi e
    exact ⟨k, f2, fd2, ps2, h1, hr, h2, h3, h4⟩
  refine ⟨_, lstS_ok O PassesOwn.never (trS_ok 60) hb F' hK, ?_⟩
  have hpl : n ≤ N.length := by
    have := congrArg List.length Sc.pre
    rw [List.length_take] at this
    omega
  unfold fnCal at hcal
  rw [if_pos hcl] at hcal
  have S0 : Ste F' H B W (L2.start N vs) (cs.map some ++ List.replicate (N.length - n) Option.none) := S.begin
  have sl : (L2.start N vs).length = N.length := by
    unfold L2.start
    rw [List.length_append, List.length_map, List.length_replicate]
    omega
  have fin : ∀ {σ' : Sg} {H' : Hp} {B' W' : Ad} {Γ' : Env}, Ste F' H' B' W' σ' Γ' → Agr (asL l) (L2.start N vs) σ' → Ste F' H' B' W' (vs.map some) (if io = true then [if io = true then look Γ' 0 else Option.none] else []) := fun {σ' H' B' W' Γ'} S' A' => by
    cases io with
    | false => exact S'.none
    | true =>
      show Ste F' H' B' W' (vs.map some) [look Γ' 0]
      refine S'.first ?_
      rw [A' 0 (hio rfl).1]
      unfold L2.start
      cases vs with
      | nil =>
        have := (hio rfl).2
        rw [List.length_nil] at hlen
        omega
      | cons v vs => rfl
  refine ⟨sl, cs.map some ++ List.replicate (N.length - n) Option.none, B, W, ?_⟩
  split at hcal
  · rename_i Γ' e
    cases hcal
    exact ⟨.nx, Γ', S0, e, fun σ' H' B' W' E' S' l' A' => q .non H' B' W' E' (fin S' A') (vokD rfl)⟩
  · rename_i c' Γ' e
    cases hcal
    exact ⟨.rt c, Γ', S0, e, fun σ' H' B' W' E' S' l' A' v V' => q v H' B' W' E' (fin S' A') V'⟩
  · cases hcal
end
end G

namespace G
open PySem PySem.Spec PyProof.Rows L2

/-! ### the module: its defs, constants, built-in names -/
def Have (K : PySem.W.Frag) (mg : Str → Option Value) (x : Str) (st : Stmt) (ps : List Str) : Prop := ∃ f fd, Fun K x x st f fd ∧ mg x = some (.ref f) ∧ Binds K fd ps []
theorem have_mk {K : PySem.W.Frag} {h : Heap} {mg : Str → Option Value} {x : Str} {st : Stmt} {ps : List Str} {f : Addr} {oc : Value} {od an : Option Addr} {osl : Array (Option Value)} {kV doc pm cdv ct : Value} (X : K.In h) (G : h.Ns mainGlobals mg)
    (hb : ∀ (kV doc pm : Value) (an : Option Addr) (cdv ct : Value) (us : List Value), us.length = ps.length → bindArgs (PySem.W.fnOf x x (defArgs st) (defBody st) (defScope st) .none kV doc pm an cdv ct) ⟨us, []⟩ = pure (ps.zip us))
    (a : PySem.W.nsIn K mainGlobals x = some (some (.ref f))) (l : K.lookup f = some ⟨oc, od, .func (PySem.W.fnOf x x (defArgs st) (defBody st) (defScope st) .none kV doc pm an cdv ct), osl⟩)
    (c : PySem.W.codeIn K cdv x = true) (k : PySem.W.keepIn K (.ref f) = true) : Have K mg x st ps := by
  have F := fun_mk l c k
  exact ⟨f, _, F, PySem.W.mg_of X G a, F.binds hb⟩
def HaveC (K : PySem.W.Frag) (mg : Str → Option Value) (x : Str) (d : D) : Prop := ∃ u v, mg x = some u ∧ RelV v u ∧ ∀ H B, Rp K H B d v
theorem haveC_int {K : PySem.W.Frag} {h : Heap} {mg : Str → Option Value} {x : Str} {i : Int} {t : Tok} (X : K.In h) (G : h.Ns mainGlobals mg) (a : PySem.W.nsIn K mainGlobals x = some (some (.int i t))) : HaveC K mg x (.int i) :=
  ⟨_, .int i, PySem.W.mg_of X G a, ⟨t, rfl⟩, fun _ _ => rfl⟩
theorem haveC_str {K : PySem.W.Frag} {h : Heap} {mg : Str → Option Value} {x y : Str} {t : Tok} (X : K.In h) (G : h.Ns mainGlobals mg) (a : PySem.W.nsIn K mainGlobals x = some (some (.str y t))) : HaveC K mg x (.str y) :=
  ⟨_, .str y, PySem.W.mg_of X G a, ⟨t, rfl⟩, fun _ _ => rfl⟩
/-- values that the module keeps -/
inductive Kd (K : PySem.W.Frag) : D → Value → Prop where
  | none : Kd K .none .none
  | bool {b} : Kd K (.bool b) (.bool b)
  | int {i t} : Kd K (.int i) (.int i t)
  | str {x t} : Kd K (.str x) (.str x t)
  | tup {a : Addr} {od : Option Addr} {osl : Array (Option Value)} {ds : List D} {us : List Value} {n : Nat} (h : K.lookup a = some ⟨.type "tuple", od, .seq us.toArray n, osl⟩) (hl : us.length ≤ 1000) (hs : List.length ds = us.length) (hk : ∀ p ∈ ds.zip us, Kd K p.1 p.2) : Kd K (.tuple ds) (.ref a)
theorem Kd.rp {K : PySem.W.Frag} {d : D} {u : Value} (h : Kd K d u) : ∃ v, RelV v u ∧ ∀ H B, Rp K H B d v := by
  induction h with
  | none => exact ⟨.non, rfl, fun _ _ => rfl⟩
  | bool => exact ⟨.bl _, rfl, fun _ _ => rfl⟩
  | int => exact ⟨.int _, ⟨_, rfl⟩, fun _ _ => rfl⟩
  | str => exact ⟨.str _, ⟨_, rfl⟩, fun _ _ => rfl⟩
  | @tup a od osl ds us n h hl hs hk ih =>
    have key : ∀ (ds : List D) (us : List Value), List.length ds = us.length → (∀ p ∈ ds.zip us, ∃ v, RelV v p.2 ∧ ∀ H B, Rp K H B p.1 v) → ∃ vs, Vals vs us ∧ ∀ H B, Rps K H B ds vs := by
      intro ds
      induction ds with
      | nil =>
        intro us e _
        cases us with
        | nil => exact ⟨[], .nil, fun _ _ => rfl⟩
        | cons u us => simp at e
      | cons d ds ihd =>
        intro us e q
        cases us with
        | nil => simp at e
        | cons u us =>
          obtain ⟨v, r1, r2⟩ := q (d, u) (by simp)
          obtain ⟨vs, r3, r4⟩ := ihd us (by simpa using e) fun p hp => q p (by simp only [List.zip_cons_cons]; exact List.mem_cons_of_mem _ hp)
          exact ⟨v :: vs, .cons r1 r3, fun H B => ⟨v, vs, rfl, r2 H B, r4 H B⟩⟩
    obtain ⟨vs, r1, r2⟩ := key ds us hs ih
    refine ⟨.ref a, rfl, fun H B => ⟨a, vs, rfl, .inr ⟨_, us.toArray, n, h, rfl, rfl, ?_, by simpa using r1⟩, r2 H B⟩⟩
    have : us.length ≤ sizeLine := Nat.le_of_lt (small1000 hl)
    simpa using this
theorem haveC_kd {K : PySem.W.Frag} {h : Heap} {mg : Str → Option Value} {x : Str} {d : D} {u : Value} (X : K.In h) (G : h.Ns mainGlobals mg) (a : PySem.W.nsIn K mainGlobals x = some (some u)) (k : Kd K d u) : HaveC K mg x d := by
  obtain ⟨v, r1, r2⟩ := k.rp
  exact ⟨_, v, PySem.W.mg_of X G a, r1, r2⟩
theorem Kd.tup2 {K : PySem.W.Frag} {a : Addr} {od : Option Addr} {osl : Array (Option Value)} {d e : D} {u v : Value} {n : Nat} (h : K.lookup a = some ⟨.type "tuple", od, .seq #[u, v] n, osl⟩) (h1 : Kd K d u) (h2 : Kd K e v) : Kd K (.tuple [d, e]) (.ref a) :=
  .tup (us := [u, v]) h (by show 2 ≤ 1000; decide) rfl fun p hp => by
    rcases List.mem_cons.mp hp with z | z
    · subst z; exact h1
    · rcases List.mem_cons.mp z with z | z
      · subst z; exact h2
      · cases z
theorem Kd.tup3 {K : PySem.W.Frag} {a : Addr} {od : Option Addr} {osl : Array (Option Value)} {d e f : D} {u v w : Value} {n : Nat} (h : K.lookup a = some ⟨.type "tuple", od, .seq #[u, v, w] n, osl⟩) (h1 : Kd K d u) (h2 : Kd K e v) (h3 : Kd K f w) : Kd K (.tuple [d, e, f]) (.ref a) :=
  .tup (us := [u, v, w]) h (by show 3 ≤ 1000; decide) rfl fun p hp => by
    rcases List.mem_cons.mp hp with z | z
    · subst z; exact h1
    · rcases List.mem_cons.mp z with z | z
      · subst z; exact h2
      · rcases List.mem_cons.mp z with z | z
        · subst z; exact h3
        · cases z
section
variable {P : Program} {w : World} {K : PySem.W.Frag} {mg : Str → Option Value} {base : Heap}
/-- a def keeps its promise -/
def Good (P : Program) (w : World) (K : PySem.W.Frag) (mg : Str → Option Value) (base : Heap) (k : Nat) (x : Str) (fi : FI) : Prop :=
  ∃ f fd ps, FnOk P w K mg base CX0 k f fd ps (spG K (np fi) fi.io fi.cal) ∧ mg x = some (.ref f) ∧ PySem.W.keepIn K (.ref f) = true ∧ Binds K fd ps []
theorem Good.mono {j k : Nat} {x : Str} {fi : FI} (h : Good P w K mg base j x fi) (hjk : j ≤ k) : Good P w K mg base k x fi := by
  obtain ⟨f, fd, ps, h1, h2⟩ := h
  exact ⟨f, fd, ps, h1.mono hjk, h2⟩
def Goods (P : Program) (w : World) (K : PySem.W.Frag) (mg : Str → Option Value) (base : Heap) (k : Nat) (l : List (Str × FI)) : Prop := ∀ x fi, l.lookup x = some fi → Good P w K mg base k x fi
theorem Goods.nil {k : Nat} : Goods P w K mg base k [] := fun _ _ h => (by cases h)
theorem Goods.cons {j k : Nat} {x : Str} {fi : FI} {l : List (Str × FI)} (h : Good P w K mg base j x fi) (hjk : j ≤ k) (r : Goods P w K mg base k l) : Goods P w K mg base k ((x, fi) :: l) := fun y fj e => by
  rw [List.lookup_cons] at e
  split at e
  · rename_i q
    cases e
    have : y = x := by simpa using q
    subst this
    exact h.mono hjk
  · exact r y fj e
/-- the names besides -/
structure Names (K : PySem.W.Frag) (mg : Str → Option Value) (cs : List (Str × D)) (bl gc : List Str) : Prop where
  cs : ∀ x d, cs.lookup x = some d → HaveC K mg x d
  bl : ∀ x, bl.contains x = true → mg x = none
  gc : ∀ x, gc.contains x = true → mg x = some (.builtin "math.gcd")
theorem names_nil : Names K mg [] [] [] := ⟨fun _ _ h => (by cases h), fun _ h => (by cases h), fun _ h => (by cases h)⟩
theorem Names.c {cs : List (Str × D)} {bl gc : List Str} {x : Str} {d : D} (h : Names K mg cs bl gc) (q : HaveC K mg x d) : Names K mg ((x, d) :: cs) bl gc := ⟨fun y e he => by
  rw [List.lookup_cons] at he
  split at he
  · rename_i z
    cases he
    have : y = x := by simpa using z
    subst this
    exact q
  · exact h.cs y e he, h.bl, h.gc⟩
theorem Names.b {cs : List (Str × D)} {bl gc : List Str} {x : Str} (h : Names K mg cs bl gc) (q : mg x = none) : Names K mg cs (x :: bl) gc := ⟨h.cs, fun y e => by
  rw [List.contains_cons, Bool.or_eq_true] at e
  rcases e with e | e
  · have : y = x := by simpa using e
    subst this; exact q
  · exact h.bl y e, h.gc⟩
theorem Names.g {cs : List (Str × D)} {bl gc : List Str} {x : Str} (h : Names K mg cs bl gc) (q : mg x = some (.builtin "math.gcd")) : Names K mg cs bl (x :: gc) := ⟨h.cs, h.bl, fun y e => by
  rw [List.contains_cons, Bool.or_eq_true] at e
  rcases e with e | e
  · have : y = x := by simpa using e
    subst this; exact q
  · exact h.gc y e⟩
theorem def_fn {x : Str} {st : Stmt} {f : Addr} {fd : FuncData} {N ps : List Str} {k : Nat} {fi : FI} {T : Tc} {l : List Nat} {sem : SemS} (F : Fun K x x st f fd) (Sc : FnScope N ps (defScope st)) (M : Names K mg T.cs T.bl T.gc)
    (hn : ps.length = np fi) (hsc : T.sc = defScope st) (hN : T.N = N) (hfn : T.fn = fun _ => true) (hb : lstS (trS 60 T) (defBody st) = some (l, sem)) (hio : fi.io = true → asL l 0 = false ∧ 0 < np fi)
    (hfns : Goods P w K mg base k T.fns) (hcal : fi.cal = fnCal (np fi) fi.io N.length sem) : FnOk P w K mg base CX0 (k + 1) f fd ps (spG K (np fi) fi.io fi.cal) := by
  rw [hcal]
  exact def_ok F Sc hn hsc hN hfn hb hio hfns M.cs M.bl M.gc
theorem def_good {x : Str} {st : Stmt} {N ps : List Str} {k : Nat} {fi : FI} {T : Tc} {l : List Nat} {sem : SemS} (A : Have K mg x st ps) (Sc : FnScope N ps (defScope st)) (M : Names K mg T.cs T.bl T.gc)
    (hn : ps.length = np fi) (hsc : T.sc = defScope st) (hN : T.N = N) (hfn : T.fn = fun _ => true) (hb : lstS (trS 60 T) (defBody st) = some (l, sem)) (hio : fi.io = true → asL l 0 = false ∧ 0 < np fi)
    (hfns : Goods P w K mg base k T.fns) (hcal : fi.cal = fnCal (np fi) fi.io N.length sem) : Good P w K mg base (k + 1) x fi := by
  obtain ⟨f, fd, F, hm, hb'⟩ := A
  exact ⟨f, fd, ps, def_fn F Sc M hn hsc hN hfn hb hio hfns hcal, hm, F.kp, hb'⟩
/-- of what never answers -/
theorem good_none {x : Str} {st : Stmt} {ps : List Str} {k : Nat} {ms : List Md} {io : Bool} (A : Have K mg x st ps) : Good P w K mg base k x ⟨ms, io, fun _ => none⟩ := by
  obtain ⟨f, fd, F, hm, hb'⟩ := A
  have no : ∀ vs H Q E, ¬ spG K (np ⟨ms, io, fun _ => none⟩) io (fun _ => none) vs H Q E := fun vs H Q E h => by
    obtain ⟨_, F', B, W, cs, c, o, _, _, _, e, _⟩ := h
    cases e
  exact ⟨f, fd, ps, ⟨fun vs H Q E h => absurd h (no vs H Q E), fun A outer s H args us vs Q E _ _ _ _ h => absurd h (no vs H Q E)⟩, hm, F.kp, hb'⟩
/-- the law's end -/
theorem law_sp {H : Hp} {a : Addr} {ns : List Int} {cal : Cal} {E : XK} (hO : Only H) (hS : SqL K H a (ns.map V.int)) (h : cal [.F (scr ns)] = some (.F (.bool true), none)) : spG K 1 false cal [.ref a] H (fun v _ => v = .bl true) E := by
  have hs : ScrL K H a (ns.map V.int) := by
    rcases hS with (h | ⟨o, h⟩) | h
    · rcases hO a with z | ⟨o, xs, z⟩
      · have h' : H a = some (.lst (ns.map V.int)) := h
        rw [z] at h'; cases h'
      · have h' : H a = some (.lst (ns.map V.int)) := h
        rw [z] at h'; cases h'
    · exact .inl ⟨o, h⟩
    · exact .inr h
  refine ⟨rfl, ⟨K, fun _ => False, fun _ => False⟩, fun _ => False, fun _ => False, [.F (scr ns)], .F (.bool true), none, rfl, ?_, rfl, h, fun v H' B' W' _ _ V => ?_⟩
  · refine ⟨⟨fun p z => z.elim, fun p z => z.elim, fun p z => z.elim, fun p z => z.elim, fun p z => z.elim, fun p z => z.elim⟩, fun _ => [], fun i c hi => ?_, fun i j p _ _ h => (by cases h)⟩
    cases i with
    | zero =>
      have hi' : some (Cell.F (scr ns)) = some c := hi
      cases hi'
      exact ⟨.ref a, rfl, ⟨rfl, a, ns, rfl, rfl, hs⟩, List.nodup_nil, (fun p hp => by cases hp), fun z => by cases z⟩
    | succ i => simp [look] at hi
  · obtain ⟨R, h1, _⟩ := V
    exact h1.2
theorem law_binds {x : Str} {st : Stmt} {f : Addr} {fd : FuncData} (F : Fun K x x st f fd) (h : ∀ (kV doc pm : Value) (an : Option Addr) (cdv ct : Value) (us : List Value), us.length = 1 → bindArgs (PySem.W.fnOf x x (defArgs st) (defBody st) (defScope st) .none kV doc pm an cdv ct) ⟨us, []⟩ = pure ((["script"] : List Str).zip us)) :
    ∀ (s : Shared) (u : Value), BindsTo s fd ⟨[u], []⟩ [("script", u)] := by
  obtain ⟨oc, od, kV, doc, pm, an, cdv, ct, osl, rfl, lk, hcd⟩ := F.ex
  exact fun s u => .of_eq (h kV doc pm an cdv ct [u] rfl)
end
end G

namespace G
open PySem PySem.Spec PyProof.Rows L2

/-! ### rules to compute with -/
section
variable {Γ : Env} {i j k : Nat} {c : Option Cell} {a b d : D} {xs ys : List D} {f g : Sem1} {m n : Int} {x y : Str} {op : D → D → Option Cell} {u : D → Option Cell}
@[simp] theorem LIM_def : LIM = 16777216 := (rfl)
@[simp] theorem look_z : look (c :: Γ) 0 = c := by cases c <;> rfl
@[simp] theorem look_s : look (c :: Γ) (i + 1) = look Γ i := (rfl)
@[simp] theorem look_n : look [] i = none := by simp [look]
@[simp] theorem sVar_ap : sVar i Γ = match look Γ i with
  | some _ => some (.slot i, Γ)
  | none => none := (rfl)
@[simp] theorem sData_ap : sData d Γ = some (.val (.F d), Γ) := (rfl)
@[simp] theorem pv_slot : (Vw.slot i).pv Γ = (look Γ i).map Cell.pv := by
  show (match look Γ i with | some c => some c.pv | none => none) = _
  cases look Γ i <;> rfl
@[simp] theorem pv_val {c : Cell} : (Vw.val c).pv Γ = some c.pv := (rfl)
@[simp] theorem cpv_F : (Cell.F d).pv = d := (rfl)
@[simp] theorem cpv_O : (Cell.O xs).pv = .list xs := (rfl)
@[simp] theorem cpv_K : (Cell.K xs).pv = .list xs := (rfl)
@[simp] theorem cpv_M : (Cell.M xs).pv = .list xs := (rfl)
@[simp] theorem fz_F : (Vw.val (.F d)).fz Γ = some (d, Γ) := (rfl)
@[simp] theorem fz_O : (Vw.val (.O xs)).fz Γ = some (.list xs, Γ) := (rfl)
@[simp] theorem fz_slot : (Vw.slot i).fz Γ = match look Γ i with
  | some (.F a) => some (a, Γ)
  | some (.O xs) => some (.list xs, Γ.set i (some (.F (.list xs))))
  | _ => none := by
  have q : (Vw.slot i).take Γ = match look Γ i with
    | some (.F a) => some (.F a, Γ)
    | some (.O xs) => some (.F (.list xs), Γ.set i (some (.F (.list xs))))
    | _ => none := (rfl)
  unfold Vw.fz
  rw [q]
  cases look Γ i with
  | none => rfl
  | some c => cases c <;> rfl
@[simp] theorem take_val {c : Cell} : (Vw.val c).take Γ = some (c, Γ) := (rfl)
@[simp] theorem take_slot : (Vw.slot i).take Γ = match look Γ i with
  | some (.F a) => some (.F a, Γ)
  | some (.O xs) => some (.F (.list xs), Γ.set i (some (.F (.list xs))))
  | _ => none := (rfl)
@[simp] theorem s2_ap : s2 op f g Γ = match f Γ with
  | none => none
  | some (va, Γ1) => match g Γ1 with
    | none => none
    | some (vb, Γ2) => match va.pv Γ2, vb.pv Γ2 with
      | some da, some db => (op da db).map fun c => (.val c, Γ2)
      | _, _ => none := (rfl)
@[simp] theorem s1_ap : s1 u f Γ = match f Γ with
  | none => none
  | some (va, Γ1) => match va.pv Γ1 with
    | some da => (u da).map fun c => (.val c, Γ1)
    | _ => none := (rfl)
@[simp] theorem asB_ap : asB f Γ = match f Γ with
  | some (.val (.F (.bool b)), Γ') => some (b, Γ')
  | _ => none := (rfl)
@[simp] theorem sTru_ap : sTru f Γ = match f Γ with
  | some (va, Γ') => match va.pv Γ' with
    | some d => (dTru d).map fun b => (b, Γ')
    | none => none
  | none => none := (rfl)
@[simp] theorem sNotB_ap {f : SemB} : sNotB f Γ = match f Γ with
  | some (b, Γ') => some (!b, Γ')
  | none => none := (rfl)
@[simp] theorem sAndB_ap {f g : SemB} : sAndB f g Γ = match f Γ with
  | some (true, Γ') => g Γ'
  | some (false, Γ') => some (false, Γ')
  | none => none := (rfl)
@[simp] theorem sOrB_ap {f g : SemB} : sOrB f g Γ = match f Γ with
  | some (true, Γ') => some (true, Γ')
  | some (false, Γ') => g Γ'
  | none => none := (rfl)
@[simp] theorem sNotV_ap : sNotV f Γ = match sTru f Γ with
  | some (b, Γ') => some (.val (.F (.bool (!b))), Γ')
  | none => none := (rfl)
@[simp] theorem sAndV_ap : sAndV f g Γ = match f Γ with
  | some (va, Γ1) => match va.pv Γ1 with
    | some d => match dTru d with
      | some true => g Γ1
      | some false => some (va, Γ1)
      | none => none
    | none => none
  | none => none := (rfl)
@[simp] theorem sOrV_ap : sOrV f g Γ = match f Γ with
  | some (va, Γ1) => match va.pv Γ1 with
    | some d => match dTru d with
      | some true => some (va, Γ1)
      | some false => g Γ1
      | none => none
    | none => none
  | none => none := (rfl)
@[simp] theorem sIte_ap {t : SemB} : sIte t f g Γ = match t Γ with
  | some (true, Γ1) => f Γ1
  | some (false, Γ1) => g Γ1
  | none => none := (rfl)
@[simp] theorem sFz_ap : sFz f Γ = match f Γ with
  | some (va, Γ1) => va.fz Γ1
  | none => none := (rfl)
@[simp] theorem aNil_ap : aNil Γ = some ([], Γ) := (rfl)
@[simp] theorem aCons_ap {h : SemA} : aCons f h Γ = match sFz f Γ with
  | some (d, Γ1) => match h Γ1 with
    | some (ds, Γ2) => some (d :: ds, Γ2)
    | none => none
  | none => none := (rfl)
@[simp] theorem sTup_ap {h : SemA} : sTup h Γ = match h Γ with
  | some (ds, Γ') => if ds.length ≤ LIM then some (.val (.F (.tuple ds)), Γ') else none
  | none => none := (rfl)
@[simp] theorem sLst_ap {h : SemA} : sLst h Γ = match h Γ with
  | some (ds, Γ') => if ds.length ≤ LIM then some (.val (.O ds), Γ') else none
  | none => none := (rfl)
@[simp] theorem oNone_ap : oNone Γ = some (none, Γ) := (rfl)
@[simp] theorem oSome_ap : oSome f Γ = match f Γ with
  | some (va, Γ') => match va.pv Γ' with
    | some (.int i) => some (some i, Γ')
    | _ => none
  | none => none := (rfl)
@[simp] theorem sSl_ap {lo hi : SemO} : sSl f lo hi Γ = match f Γ with
  | some (va, Γ1) => match lo Γ1 with
    | some (l, Γ2) => match hi Γ2 with
      | some (h, Γ3) => match va.pv Γ3 with
        | some d => (dSl d l h).map fun c => (.val c, Γ3)
        | none => none
      | none => none
    | none => none
  | none => none := (rfl)
@[simp] theorem sApp_ap : sApp i f Γ = match look Γ i with
  | some (.O _) => match sFz f Γ with
    | some (d, Γ1) => match look Γ1 i with
      | some (.O xs) => if xs.length < LIM then some (.val (.F .none), Γ1.set i (some (.O (xs ++ [d])))) else none
      | _ => none
    | none => none
  | _ => none := (rfl)
@[simp] theorem sExt_ap : sExt i f Γ = match look Γ i with
  | some (.O _) => match f Γ with
    | some (va, Γ1) => match va.pv Γ1, look Γ1 i with
      | some (.list ys), some (.O xs) => if xs.length + ys.length ≤ LIM then some (.val (.F .none), Γ1.set i (some (.O (xs ++ ys)))) else none
      | _, _ => none
    | none => none
  | _ => none := (rfl)
@[simp] theorem sPop_ap : sPop i Γ = match look Γ i with
  | some (.O xs) => match xs[xs.length - 1]? with
    | some d => some (.val (.F d), Γ.set i (some (.O xs.dropLast)))
    | none => none
  | _ => none := (rfl)
@[simp] theorem sPopAt_ap : sPopAt i f Γ = match look Γ i with
  | some (.O _) => match f Γ with
    | some (va, Γ1) => match va.pv Γ1, look Γ1 i with
      | some (.int k), some (.O xs) => match ixN xs.length k with
        | some j => match xs[j]? with
          | some d => if xs.length ≤ LIM then some (.val (.F d), Γ1.set i (some (.O (xs.eraseIdx j)))) else none
          | none => none
        | none => none
      | _, _ => none
    | none => none
  | _ => none := (rfl)
/-! calls -/
@[simp] theorem iNil_ap : iNil Γ = some ([], Γ) := (rfl)
@[simp] theorem iCons_ap {m : Md} {h : SemI} : iCons m f h Γ = match sItm m f Γ with
  | some (it, Γ1) => match h Γ1 with
    | some (its, Γ2) => some (it :: its, Γ2)
    | none => none
  | none => none := (rfl)
@[simp] theorem sItm_fr : sItm .fr f Γ = match sFz f Γ with
  | some (d, Γ1) => some (.dt d, Γ1)
  | none => none := (rfl)
@[simp] theorem sItm_lk : sItm .lk f Γ = match f Γ with
  | some (.slot i, Γ1) => some (.sl i, Γ1)
  | some (.val c, Γ1) => match (Vw.val c).fz Γ1 with
    | some (d, Γ2) => some (.dt d, Γ2)
    | none => none
  | none => none := (rfl)
@[simp] theorem lockD_l : lockD (.list xs) = .K xs := (rfl)
@[simp] theorem lockD_t : lockD (.tuple xs) = .F (.tuple xs) := (rfl)
@[simp] theorem lockD_i : lockD (.int m) = .F (.int m) := (rfl)
@[simp] theorem lockD_s : lockD (.str x) = .F (.str x) := (rfl)
@[simp] theorem lockD_b {b : Bool} : lockD (.bool b) = .F (.bool b) := (rfl)
@[simp] theorem lockD_n : lockD .none = .F .none := (rfl)
@[simp] theorem lockD_scr {ns : List Int} : lockD (scr ns) = .F (scr ns) := (rfl)
@[simp] theorem itCell_sl : itCell Γ (.sl i) = (look Γ i).map fun c => lockD c.pv := by
  show (match look Γ i with | some c => some (lockD c.pv) | none => none) = _
  cases look Γ i <;> rfl
@[simp] theorem itCell_dt : itCell Γ (.dt d) = some (lockD d) := (rfl)
@[simp] theorem itCellM_lk {it : Itm} : itCellM Γ .lk it = itCell Γ it := (rfl)
@[simp] theorem itCellM_fr : itCellM Γ .fr (.dt d) = some (.F d) := (rfl)
@[simp] theorem itCells_nil : itCells Γ [] [] = some [] := (rfl)
@[simp] theorem itCells_cons {m : Md} {ms : List Md} {it : Itm} {its : List Itm} : itCells Γ (m :: ms) (it :: its) = match itCellM Γ m it, itCells Γ ms its with
    | some c, some cs => some (c :: cs)
    | _, _ => none := (rfl)
@[simp] theorem notSl_sl : notSl i (.sl j) = !(j == i) := (rfl)
@[simp] theorem notSl_dt : notSl i (.dt d) = true := (rfl)
@[simp] theorem ret_F : (Cell.F d).ret = true := (rfl)
@[simp] theorem ret_O : (Cell.O xs).ret = true := (rfl)
@[simp] theorem sCall_ap {cal : Cal} {ms : List Md} {fs : SemI} : sCall cal ms fs Γ = match fs Γ with
  | some (its, Γ1) => match itCells Γ1 ms its with
    | some cs => match cal cs with
      | some (c, _) => if c.ret then some (.val c, Γ1) else none
      | none => none
    | none => none
  | none => none := (rfl)
@[simp] theorem sCallO_ap {cal : Cal} {ms : List Md} {fs : SemI} : sCallO cal ms fs Γ = match fs Γ with
  | some (.sl i :: its, Γ1) => match look Γ1 i with
    | some (.O xs) => match its.all (notSl i), itCells Γ1 ms its with
      | true, some cs => match cal (.O xs :: cs) with
        | some (c, o) => if c.ret then some (.val c, Γ1.set i o) else none
        | none => none
      | _, _ => none
    | _ => none
  | _ => none := (rfl)
/-! statements -/
@[simp] theorem cNil_ap : cNil Γ = some (.nx, Γ) := (rfl)
@[simp] theorem cSeq_ap {f g : SemS} : cSeq f g Γ = match f Γ with
  | some (.nx, Γ1) => g Γ1
  | some (fl, Γ1) => some (fl, Γ1)
  | none => none := (rfl)
@[simp] theorem cExp_ap : cExp f Γ = match f Γ with
  | some (_, Γ1) => some (.nx, Γ1)
  | none => none := (rfl)
@[simp] theorem cIf_ap {t : SemB} {f g : SemS} : cIf t f g Γ = match t Γ with
  | some (true, Γ1) => f Γ1
  | some (false, Γ1) => g Γ1
  | none => none := (rfl)
@[simp] theorem cBk_ap : cBk Γ = some (.bk, Γ) := (rfl)
@[simp] theorem cCt_ap : cCt Γ = some (.ct, Γ) := (rfl)
@[simp] theorem cRetN_ap : cRetN Γ = some (.rt (.F .none), Γ) := (rfl)
@[simp] theorem cRet_ap {pin : Bool} : cRet pin f Γ = match f Γ with
  | some (.slot i, Γ1) => match look Γ1 i with
    | some (.F a) => some (.rt (.F a), Γ1)
    | some (.O xs) => if (pin && i == 0) = true then none else some (.rt (.O xs), Γ1.set i none)
    | _ => none
  | some (.val c, Γ1) => if c.ret then some (.rt c, Γ1) else none
  | none => none := (rfl)
@[simp] theorem cAsg_ap {g : SemT} : cAsg f g Γ = match f Γ with
  | some (va, Γ1) => match va.take Γ1 with
    | some (c, Γ2) => match g c Γ2 with
      | some Γ3 => some (.nx, Γ3)
      | none => none
    | none => none
  | none => none := (rfl)
@[simp] theorem cPar_ap {h : SemA} : cPar i j h Γ = match h Γ with
  | some ([d, e], Γ1) => some (.nx, (Γ1.set i (some (.F d))).set j (some (.F e)))
  | _ => none := (rfl)
@[simp] theorem cPar3_ap {h : SemA} : cPar3 i j k h Γ = match h Γ with
  | some ([d, e, c], Γ1) => some (.nx, ((Γ1.set i (some (.F d))).set j (some (.F e))).set k (some (.F c)))
  | _ => none := (rfl)
@[simp] theorem gNm_ap {c : Cell} : gNm i c Γ = some (Γ.set i (some c)) := (rfl)
@[simp] theorem gsNil_ap : gsNil [] Γ = some Γ := (rfl)
@[simp] theorem gsCons_ap {t : SemT} {ts : SemTs} {ds : List D} : gsCons t ts (d :: ds) Γ = match t (.F d) Γ with
    | some Γ1 => ts ds Γ1
    | none => none := (rfl)
@[simp] theorem gTp_ap {ts : SemTs} {c : Cell} : gTp i ts c Γ = match c.pv with
  | .tuple ds => if ds.length = i then ts ds Γ else none
  | .list ds => if ds.length = i then ts ds Γ else none
  | _ => none := (rfl)
@[simp] theorem gIx_ap {c : Cell} : gIx i f c Γ = match (Vw.val c).fz Γ with
  | some (d, _) => match look Γ i with
    | some (.O _) => match f Γ with
      | some (va, Γ1) => match va.pv Γ1, look Γ1 i with
        | some (.int k), some (.O xs) => match ixN xs.length k with
          | some j => some (Γ1.set i (some (.O (xs.set j d))))
          | none => none
        | _, _ => none
      | none => none
    | _ => none
  | none => none := (rfl)
@[simp] theorem tpD_t {ts : SemTs} : tpD i ts (.tuple xs) Γ = if xs.length = i then ts xs Γ else none := (rfl)
@[simp] theorem tpD_l {ts : SemTs} : tpD i ts (.list xs) Γ = if xs.length = i then ts xs Γ else none := (rfl)
@[simp] theorem cUnp_ap {ts : SemTs} : cUnp i ts f Γ = match f Γ with
  | some (va, Γ1) => match va.pv Γ1 with
    | some d => match tpD i ts d Γ1 with
      | some Γ2 => some (.nx, Γ2)
      | none => none
    | none => none
  | none => none := (rfl)
@[simp] theorem cAsg2_ap : cAsg2 f i j Γ = match sFz f Γ with
  | some (d, Γ1) => some (.nx, (Γ1.set i (some (.F d))).set j (some (.F d)))
  | none => none := (rfl)
@[simp] theorem sM1_ap {ok : D → Bool} : sM1 ok op f g Γ = match f Γ with
  | none => none
  | some (va, Γ1) => match va.pv Γ1 with
    | none => none
    | some d0 => if ok d0 = true then match g Γ1 with
      | none => none
      | some (vb, Γ2) => match va.pv Γ2, vb.pv Γ2 with
        | some da, some db => (op da db).map fun c => (.val c, Γ2)
        | _, _ => none
      else none := (rfl)
@[simp] theorem sM0_ap {ok : D → Bool} : sM0 ok u f Γ = match f Γ with
  | none => none
  | some (va, Γ1) => match va.pv Γ1 with
    | none => none
    | some d0 => if ok d0 = true then (u d0).map fun c => (.val c, Γ1) else none := (rfl)
@[simp] theorem isL_l : isL (.list xs) = true := (rfl)
@[simp] theorem isS_s : isS (.str x) = true := (rfl)
@[simp] theorem cDead_ap : cDead Γ = none := (rfl)
@[simp] theorem sAlt_ap : sAlt f g Γ = match f Γ with
  | some r => some r
  | none => g Γ := (rfl)
@[simp] theorem sChain_ap {op op' : D → D → Option Cell} {h : Sem1} : sChain op op' f g h Γ = match f Γ with
  | none => none
  | some (va, Γ1) => match g Γ1 with
    | none => none
    | some (vb, Γ2) => match va.pv Γ2, vb.pv Γ2 with
      | some da, some db => match op da db with
        | some (.F (.bool true)) => match h Γ2 with
          | none => none
          | some (vc, Γ3) => match vb.pv Γ3, vc.pv Γ3 with
            | some db', some dc => (op' db' dc).map fun c => (.val c, Γ3)
            | _, _ => none
        | some (.F (.bool false)) => some (.val (.F (.bool false)), Γ2)
        | _ => none
      | _, _ => none := (rfl)
/-! walks -/
@[simp] theorem rRg1_ap {h : SemA} : rRg1 h Γ = match h Γ with
  | some ([.int j], Γ1) => if rgOk j = true then some (.rg 0 1 j.toNat, Γ1) else none
  | _ => none := (rfl)
@[simp] theorem rRg2_ap {h : SemA} : rRg2 h Γ = match h Γ with
  | some ([.int i, .int j], Γ1) => if (rgOk i && rgOk j) = true then some (.rg i 1 (j - i).toNat, Γ1) else none
  | _ => none := (rfl)
@[simp] theorem rSq_ap : rSq f Γ = match f Γ with
  | some (.slot i, Γ1) => match look Γ1 i with
    | some (.O xs) => some (.sl i xs, Γ1)
    | some c => (seqOf c.pv).map fun ds => (.li ds, Γ1)
    | none => none
  | some (.val c, Γ1) => match (Vw.val c).fz Γ1 with
    | some (d, _) => (seqOf d).map fun ds => (.li ds, Γ1)
    | none => none
  | none => none := (rfl)
@[simp] theorem seqOf_l : seqOf (.list xs) = some xs := (rfl)
@[simp] theorem seqOf_t : seqOf (.tuple xs) = some xs := (rfl)
@[simp] theorem bYes_ap : bYes Γ = some (true, Γ) := (rfl)
theorem cFor_ap {as : As} {fI : SemR} {g : SemT} {b : SemS} : cFor as fI g b Γ = match fI Γ with
  | none => none
  | some (.sl i xs, Γ1) => if as i = true then none else match forL g b xs (Γ1.set i (some (.M xs))) with
    | none => none
    | some (fl, Γ2) => match look Γ2 i with
      | some (.M ys) => if fl.ok = true then some (fl, Γ2.set i (some (.O ys))) else none
      | _ => none
  | some (s, Γ1) => s.loop g b Γ1 := rfl
@[simp] theorem fnCal_ap {io : Bool} {nN : Nat} {f : SemS} {cs : List Cell} : fnCal i io nN f cs = if cs.length = i then match f (cs.map some ++ List.replicate (nN - i) none) with
    | some (.nx, Γ) => some (.F .none, if io = true then look Γ 0 else none)
    | some (.rt c, Γ) => some (c, if io = true then look Γ 0 else none)
    | _ => none
  else none := (rfl)
/-! operators -/
@[simp] theorem dAdd_i : dAdd (.int m) (.int n) = some (.F (.int (m + n))) := (rfl)
@[simp] theorem dAdd_l : dAdd (.list xs) (.list ys) = if xs.length + ys.length ≤ LIM then some (.O (xs ++ ys)) else none := (rfl)
@[simp] theorem dAdd_t : dAdd (.tuple xs) (.tuple ys) = if xs.length + ys.length ≤ LIM then some (.F (.tuple (xs ++ ys))) else none := (rfl)
@[simp] theorem dAdd_s : dAdd (.str x) (.str y) = if x.length + y.length ≤ LIM then some (.F (.str (x ++ y))) else none := (rfl)
@[simp] theorem dSub_i : dSub (.int m) (.int n) = some (.F (.int (m - n))) := (rfl)
@[simp] theorem dMul_i : dMul (.int m) (.int n) = if mulOk m n = true then some (.F (.int (m * n))) else none := (rfl)
@[simp] theorem dMul_l : dMul (.list xs) (.int n) = if 0 ≤ n ∧ n < 2 ^ 63 ∧ xs.length * n.toNat ≤ LIM then some (.O (List.replicate n.toNat xs).flatten) else none := (rfl)
@[simp] theorem dDiv_i : dDiv (.int m) (.int n) = if divOk n = true then some (.F (.int (m / n))) else none := (rfl)
@[simp] theorem dMod_i : dMod (.int m) (.int n) = if 0 < n then some (.F (.int (m % n))) else none := (rfl)
@[simp] theorem dPow_i : dPow (.int m) (.int n) = if 0 ≤ n ∧ n ≤ 1000000 ∧ m.natAbs < 2 ^ 64 then some (.F (.int (m ^ n.toNat))) else none := (rfl)
@[simp] theorem dNeg_i : dNeg (.int m) = some (.F (.int (-m))) := (rfl)
@[simp] theorem dEq_ap : dEq a b = if (dle 9 a && dle 9 b) = true then some (.F (.bool (PyData.eqv a b))) else none := (rfl)
@[simp] theorem dNe_ap : dNe a b = if (dle 9 a && dle 9 b) = true then some (.F (.bool (!PyData.eqv a b))) else none := (rfl)
@[simp] theorem dLt_i : dLt (.int m) (.int n) = some (.F (.bool (decide (m < n)))) := (rfl)
@[simp] theorem dLt_s : dLt (.str x) (.str y) = some (.F (.bool (decide (x.cps.toList < y.cps.toList)))) := (rfl)
@[simp] theorem dLe_i : dLe (.int m) (.int n) = some (.F (.bool (decide (m ≤ n)))) := (rfl)
@[simp] theorem dGt_i : dGt (.int m) (.int n) = some (.F (.bool (decide (n < m)))) := (rfl)
@[simp] theorem dGe_i : dGe (.int m) (.int n) = some (.F (.bool (decide (n ≤ m)))) := (rfl)
@[simp] theorem dIs_n : dIs a .none = some (.F (.bool (isNone a))) := by cases a <;> rfl
@[simp] theorem dIsNot_n : dIsNot a .none = some (.F (.bool (!isNone a))) := by cases a <;> rfl
@[simp] theorem dIs_b {q : Bool} : dIs a (.bool q) = some (.F (.bool (isBl q a))) := by cases a <;> rfl
@[simp] theorem dIsNot_b {q : Bool} : dIsNot a (.bool q) = some (.F (.bool (!isBl q a))) := by cases a <;> rfl
@[simp] theorem isBl_b {p q : Bool} : isBl q (.bool p) = decide (p = q) := (Bool.beq_eq_decide_eq p q)
@[simp] theorem isBl_i {q : Bool} : isBl q (.int m) = false := (rfl)
@[simp] theorem isBl_s {q : Bool} : isBl q (.str x) = false := (rfl)
@[simp] theorem isBl_t {q : Bool} : isBl q (.tuple xs) = false := (rfl)
@[simp] theorem isBl_l {q : Bool} : isBl q (.list xs) = false := (rfl)
@[simp] theorem isBl_n {q : Bool} : isBl q .none = false := (rfl)
@[simp] theorem isNone_n : isNone .none = true := (rfl)
@[simp] theorem isNone_i : isNone (.int m) = false := (rfl)
@[simp] theorem isNone_b {p : Bool} : isNone (.bool p) = false := (rfl)
@[simp] theorem isNone_t : isNone (.tuple xs) = false := (rfl)
@[simp] theorem isNone_l : isNone (.list xs) = false := (rfl)
@[simp] theorem isNone_s : isNone (.str x) = false := (rfl)
@[simp] theorem dIn_l : dIn a (.list xs) = if (dle 9 a && xs.all (dle 9)) = true then some (.F (.bool (xs.any fun y => PyData.eqv y a))) else none := (rfl)
@[simp] theorem dIn_t : dIn a (.tuple xs) = if (dle 9 a && xs.all (dle 9)) = true then some (.F (.bool (xs.any fun y => PyData.eqv y a))) else none := (rfl)
@[simp] theorem dNotIn_l : dNotIn a (.list xs) = if (dle 9 a && xs.all (dle 9)) = true then some (.F (.bool (!xs.any fun y => PyData.eqv y a))) else none := (rfl)
@[simp] theorem dNotIn_t : dNotIn a (.tuple xs) = if (dle 9 a && xs.all (dle 9)) = true then some (.F (.bool (!xs.any fun y => PyData.eqv y a))) else none := (rfl)
@[simp] theorem dIx_l : dIx (.list xs) (.int m) = (atI xs m).map .F := (rfl)
@[simp] theorem dIx_t : dIx (.tuple xs) (.int m) = (atI xs m).map .F := (rfl)
@[simp] theorem dIx_scr {ns : List Int} : dIx (scr ns) (.int m) = (atI (ns.map PyData.int) m).map .F := (rfl)
@[simp] theorem dIx_s : dIx (.str x) (.int m) = if x.length ≤ LIM then (atI x.cps.toList m).map fun c => .F (.str ⟨#[c]⟩) else none := (rfl)
@[simp] theorem atI_n {α : Type} {l : List α} {k : Nat} : atI l (k : Int) = l[k]? := by
  unfold atI ixN
  rw [if_pos (Int.natCast_nonneg k)]
  by_cases h : k < l.length
  · rw [if_pos (by omega)]; rfl
  · rw [if_neg (by omega), List.getElem?_eq_none (by omega)]; rfl
@[simp] theorem atI_ofNat {α : Type} {l : List α} {k : Nat} : atI l (no_index (OfNat.ofNat k : Int)) = l[k]? := atI_n
@[simp] theorem atI_zero {α : Type} {l : List α} : atI l 0 = l[0]? := atI_n (k := 0)
@[simp] theorem atI_one {α : Type} {l : List α} : atI l 1 = l[1]? := atI_n (k := 1)
theorem atI_last {α : Type} {l : List α} (h : l ≠ []) : atI l (-1) = l.getLast? := by
  unfold atI ixN
  have : 0 < l.length := List.length_pos_iff.mpr h
  rw [if_neg (by omega), if_pos (by omega), List.getLast?_eq_getElem?]
  show l[((-1 : Int) + l.length).toNat]? = _
  congr 1
  omega
@[simp] theorem dLen_l : dLen (.list xs) = some (.F (.int xs.length)) := (rfl)
@[simp] theorem dLen_t : dLen (.tuple xs) = some (.F (.int xs.length)) := (rfl)
@[simp] theorem dLen_s : dLen (.str x) = if x.length ≤ LIM then some (.F (.int x.length)) else none := (rfl)
@[simp] theorem dLen_scr {ns : List Int} : dLen (scr ns) = some (.F (.int ns.length)) := by
  show some (Cell.F (.int (ns.map PyData.int).length)) = _
  rw [List.length_map]
@[simp] theorem dInt_i : dInt (.int m) = some (.F (.int m)) := (rfl)
@[simp] theorem dInt_b {p : Bool} : dInt (.bool p) = some (.F (.int (if p then 1 else 0))) := (rfl)
@[simp] theorem dAbs_i : dAbs (.int m) = some (.F (.int (if m < 0 then -m else m))) := (rfl)
@[simp] theorem dStr_i : dStr (.int m) = if m.natAbs.log2 < 1920 then some (.F (.str (toString m))) else none := (rfl)
@[simp] theorem dList_l : dList (.list xs) = some (.O xs) := (rfl)
@[simp] theorem dList_t : dList (.tuple xs) = some (.O xs) := (rfl)
@[simp] theorem dTuple_l : dTuple (.list xs) = some (.F (.tuple xs)) := (rfl)
@[simp] theorem dTuple_t : dTuple (.tuple xs) = some (.F (.tuple xs)) := (rfl)
@[simp] theorem dSum_ints {ns : List Int} : dSum (.list (ns.map PyData.int)) = some (.F (.int ns.sum)) := by
  show (ints? (ns.map PyData.int)).map _ = _
  rw [ints_map]; rfl
@[simp] theorem dAll_bools {ns : List Bool} : dAll (.list (ns.map PyData.bool)) = some (.F (.bool (ns.all id))) := by
  show (bools? (ns.map PyData.bool)).map _ = _
  rw [bools_map]; rfl
@[simp] theorem dAny_bools {ns : List Bool} : dAny (.list (ns.map PyData.bool)) = some (.F (.bool (ns.any id))) := by
  show (bools? (ns.map PyData.bool)).map _ = _
  rw [bools_map]; rfl
@[simp] theorem dMax2_i : dMax2 (.int m) (.int n) = some (.F (.int (if n > m then n else m))) := (rfl)
@[simp] theorem dMin2_i : dMin2 (.int m) (.int n) = some (.F (.int (if n < m then n else m))) := (rfl)
@[simp] theorem dGcd_i : dGcd (.int m) (.int n) = some (.F (.int ((Nat.gcd m.natAbs n.natAbs : Nat) : Int))) := (rfl)
@[simp] theorem dIsi_i {c : String} : dIsi c (.int m) = some (.F (.bool (isTy "int" c))) := (rfl)
@[simp] theorem dIsi_b {c : String} {p : Bool} : dIsi c (.bool p) = some (.F (.bool (isTy "bool" c))) := (rfl)
@[simp] theorem dIsi_s {c : String} : dIsi c (.str x) = some (.F (.bool (isTy "str" c))) := (rfl)
@[simp] theorem dIsi_t {c : String} : dIsi c (.tuple xs) = some (.F (.bool (isTy "tuple" c))) := (rfl)
@[simp] theorem dIsi_l {c : String} : dIsi c (.list xs) = some (.F (.bool (isTy "list" c))) := (rfl)
@[simp] theorem dIsi_n {c : String} : dIsi c .none = some (.F (.bool (isTy "NoneType" c))) := (rfl)
@[simp] theorem isTy_ap {t c : String} : isTy t c = (t == c || (t == "bool" && c == "int")) := (rfl)
@[simp] theorem dTru_n : dTru .none = some false := (rfl)
@[simp] theorem dTru_b {p : Bool} : dTru (.bool p) = some p := (rfl)
@[simp] theorem dTru_i : dTru (.int m) = some (m != 0) := (rfl)
@[simp] theorem dTru_l : dTru (.list xs) = some (!xs.isEmpty) := (rfl)
@[simp] theorem dTru_t : dTru (.tuple xs) = some (!xs.isEmpty) := (rfl)
@[simp] theorem dSl_l {lo hi : Option Int} : dSl (.list xs) lo hi = some (.O (cutD xs lo hi)) := (rfl)
@[simp] theorem dSl_t {lo hi : Option Int} : dSl (.tuple xs) lo hi = some (.F (.tuple (cutD xs lo hi))) := (rfl)
@[simp] theorem dle_i : dle k (.int m) = true := by cases k <;> rfl
@[simp] theorem dle_b {p : Bool} : dle k (.bool p) = true := by cases k <;> rfl
@[simp] theorem dle_s : dle k (.str x) = true := by cases k <;> rfl
@[simp] theorem dle_n : dle k .none = true := by cases k <;> rfl
@[simp] theorem dle_t : dle (k + 1) (.tuple xs) = xs.all (dle k) := (rfl)
@[simp] theorem dle_l : dle (k + 1) (.list xs) = xs.all (dle k) := (rfl)
end
/-! ### comparing data -/
@[simp] theorem eqv_i {m n : Int} : PyData.eqv (.int m) (.int n) = decide (m = n) := by simp [PyData.eqv, Bool.beq_eq_decide_eq]
@[simp] theorem eqv_b {m n : Bool} : PyData.eqv (.bool m) (.bool n) = decide (m = n) := by simp [PyData.eqv, Bool.beq_eq_decide_eq]
@[simp] theorem eqv_s {m n : Str} : PyData.eqv (.str m) (.str n) = decide (m = n) := by simp [PyData.eqv, Bool.beq_eq_decide_eq]
@[simp] theorem eqv_n : PyData.eqv .none .none = true := by simp [PyData.eqv]
@[simp] theorem eqv_t {xs ys : List D} : PyData.eqv (.tuple xs) (.tuple ys) = PyData.eqvAll xs ys := by simp [PyData.eqv]
@[simp] theorem eqv_l {xs ys : List D} : PyData.eqv (.list xs) (.list ys) = PyData.eqvAll xs ys := by simp [PyData.eqv]
@[simp] theorem eqv_nt {xs : List D} : PyData.eqv .none (.tuple xs) = false := by simp [PyData.eqv]
@[simp] theorem eqv_tn {xs : List D} : PyData.eqv (.tuple xs) .none = false := by simp [PyData.eqv]
@[simp] theorem eqv_nl {xs : List D} : PyData.eqv .none (.list xs) = false := by simp [PyData.eqv]
@[simp] theorem eqv_ln {xs : List D} : PyData.eqv (.list xs) .none = false := by simp [PyData.eqv]
@[simp] theorem eqvA_nil : PyData.eqvAll [] [] = true := by simp [PyData.eqvAll]
@[simp] theorem eqvA_cons {x y : D} {xs ys : List D} : PyData.eqvAll (x :: xs) (y :: ys) = (PyData.eqv x y && PyData.eqvAll xs ys) := by simp [PyData.eqvAll]
@[simp] theorem eqvA_nc {y : D} {ys : List D} : PyData.eqvAll [] (y :: ys) = false := by simp [PyData.eqvAll]
@[simp] theorem eqvA_cn {y : D} {ys : List D} : PyData.eqvAll (y :: ys) [] = false := by simp [PyData.eqvAll]
/-- data that is equal to itself alone: ints, strings and what is made of them -/
inductive Sd : D → Prop where
  | n : Sd .none
  | i {m} : Sd (.int m)
  | s {m} : Sd (.str m)
  | b {m} : Sd (.bool m)
  | t {xs} (h : ∀ x ∈ xs, Sd x) : Sd (.tuple xs)
  | l {xs} (h : ∀ x ∈ xs, Sd x) : Sd (.list xs)
theorem Sd.refl {d : D} (h : Sd d) : PyData.eqv d d = true := by
  induction h with
  | n => simp
  | i => simp
  | s => simp
  | b => simp
  | @t xs _ ih =>
    rw [eqv_t]
    induction xs with
    | nil => simp
    | cons x xs ihx => rw [eqvA_cons, ih x (by simp), ihx (fun y hy => by simp_all) (fun y hy => ih y (by simp [hy]))]; rfl
  | @l xs _ ih =>
    rw [eqv_l]
    induction xs with
    | nil => simp
    | cons x xs ihx => rw [eqvA_cons, ih x (by simp), ihx (fun y hy => by simp_all) (fun y hy => ih y (by simp [hy]))]; rfl
/-! ### loops -/
theorem forR_inv {g : SemT} {b : SemS} {c : Int} (P : Env → Prop) (step : ∀ Γ lo, P Γ → ∃ Γ1 fl Γ2, g (.F (.int lo)) Γ = some Γ1 ∧ b Γ1 = some (fl, Γ2) ∧ (fl = .nx ∨ fl = .ct) ∧ P Γ2) :
    ∀ (n : Nat) (lo : Int) (Γ : Env), P Γ → ∃ Γ', forR g b c n lo Γ = some (.nx, Γ') ∧ P Γ'
  | 0, lo, Γ, h => ⟨Γ, rfl, h⟩
  | n + 1, lo, Γ, h => by
    obtain ⟨Γ1, fl, Γ2, e1, e2, e3, h2⟩ := step Γ lo h
    obtain ⟨Γ', e4, h4⟩ := forR_inv P step n (lo + c) Γ2 h2
    refine ⟨Γ', ?_, h4⟩
    unfold forR
    rw [e1]; dsimp only
    rw [e2]
    rcases e3 with e3 | e3 <;> subst e3 <;> exact e4
theorem forR_zero {g : SemT} {b : SemS} {c lo : Int} {Γ : Env} : forR g b c 0 lo Γ = some (.nx, Γ) := rfl
theorem forR_succ {g : SemT} {b : SemS} {c lo : Int} {n : Nat} {Γ : Env} : forR g b c (n + 1) lo Γ = match g (.F (.int lo)) Γ with
    | none => none
    | some Γ1 => match b Γ1 with
      | some (.nx, Γ2) => forR g b c n (lo + c) Γ2
      | some (.ct, Γ2) => forR g b c n (lo + c) Γ2
      | some (.bk, Γ2) => some (.nx, Γ2)
      | some (.rt c, Γ2) => some (.rt c, Γ2)
      | none => none := rfl
theorem forL_nil {g : SemT} {b : SemS} {Γ : Env} : forL g b [] Γ = some (.nx, Γ) := rfl
theorem forL_cons {g : SemT} {b : SemS} {d : D} {ds : List D} {Γ : Env} : forL g b (d :: ds) Γ = match g (.F d) Γ with
    | none => none
    | some Γ1 => match b Γ1 with
      | some (.nx, Γ2) => forL g b ds Γ2
      | some (.ct, Γ2) => forL g b ds Γ2
      | some (.bk, Γ2) => some (.nx, Γ2)
      | some (.rt c, Γ2) => some (.rt c, Γ2)
      | none => none := rfl
/-- a list comprehension that gives h of each item -/
theorem lcL_map {g : SemT} {t : SemB} {e : Sem1} {vs : List Nat} {Γ : Env} {h : D → D} : ∀ {ds : List D}, (∀ d ∈ ds, ∃ Γ1 Γ2 vw Γ3 Γ4, g (.F d) Γ = some Γ1 ∧ t Γ1 = some (true, Γ2) ∧ e Γ2 = some (vw, Γ3) ∧ vw.fz Γ3 = some (h d, Γ4) ∧ wipeE vs Γ4 = Γ) → lcL g t e vs ds Γ = some (ds.map h, Γ)
  | [], _ => rfl
  | d :: ds, q => by
    obtain ⟨Γ1, Γ2, vw, Γ3, Γ4, e1, e2, e3, e4, e5⟩ := q d (by simp)
    unfold lcL
    rw [e1]; dsimp only
    rw [e2]; dsimp only
    rw [e3]; dsimp only
    rw [e4]; dsimp only
    rw [e5, lcL_map fun d hd => q d (by simp [hd])]
    rfl
@[simp] theorem wipeE_nil {Γ : Env} : wipeE [] Γ = Γ := (rfl)
@[simp] theorem wipeE_cons {Γ : Env} {i : Nat} {vs : List Nat} : wipeE (i :: vs) Γ = (wipeE vs Γ).set i none := (rfl)
@[simp] theorem back_nil {Γ Γ0 : Env} : back Γ0 [] Γ = Γ := (rfl)
/-- a slot behind a block: data stays -/
def bk (c : Option Cell) : Option Cell := match c with
  | some (.F a) => some (.F a)
  | _ => none
@[simp] theorem bk_F {d : D} : bk (some (.F d)) = some (.F d) := (rfl)
@[simp] theorem bk_O {xs : List D} : bk (some (.O xs)) = none := (rfl)
@[simp] theorem bk_n : bk none = none := (rfl)
@[simp] theorem back_cons {Γ Γ0 : Env} {i : Nat} {vs : List Nat} : back Γ0 (i :: vs) Γ = (back Γ0 vs Γ).set i (bk (look Γ0 i)) := (rfl)
@[simp] theorem asL_ap {l : List Nat} {j : Nat} : asL l j = l.contains j := (rfl)
@[simp] theorem ok_nx : Fl.ok .nx = true := (rfl)
@[simp] theorem ok_rt {c : Cell} : Fl.ok (.rt c) = c.ret := (rfl)
theorem cSeq_nx {f g : SemS} {Γ Γ1 : Env} {r : Option (Fl × Env)} (h : f Γ = some (.nx, Γ1)) (k : g Γ1 = r) : cSeq f g Γ = r := by rw [cSeq_ap, h]; exact k
theorem cSeq_ct {f g : SemS} {Γ Γ1 : Env} (h : f Γ = some (.ct, Γ1)) : cSeq f g Γ = some (.ct, Γ1) := by rw [cSeq_ap, h]
end G

namespace G
open PySem PySem.Spec PyProof.Rows L2

/-! ### fractions -/
def R (x : Rat) : D := .tuple [.int x.num, .int (x.den : Int)]
structure Bd (n : Nat) (x : Rat) : Prop where
  num : x.num.natAbs < 2 ^ n
  den : x.den < 2 ^ n
theorem log2_le {a n : Nat} (h : a < 2 ^ n) : a.log2 ≤ n := by
  by_cases z : a = 0
  · subst z; simp
  · exact Nat.le_of_lt ((Nat.log2_lt z).mpr h)
theorem log2_lt' {a n : Nat} (z : a ≠ 0) (h : a < 2 ^ n) : a.log2 < n := (Nat.log2_lt z).mpr h
theorem mulOk_of {i j : Int} {n m : Nat} (h : i.natAbs < 2 ^ n) (k : j.natAbs < 2 ^ m) (q : n + m < 1000000) : mulOk i j = true := by
  unfold mulOk
  have a := log2_le h
  have b := log2_le k
  simp only [Bool.or_eq_true, decide_eq_true_eq]
  exact .inr (by omega)
theorem mulOk_l {i j : Int} (h : i.natAbs < 2 ^ 64) : mulOk i j = true := by
  unfold mulOk
  simp only [Bool.or_eq_true, decide_eq_true_eq]
  exact .inl (.inl h)
theorem mulOk_r {i j : Int} (h : j.natAbs < 2 ^ 64) : mulOk i j = true := by
  unfold mulOk
  simp only [Bool.or_eq_true, decide_eq_true_eq]
  exact .inl (.inr h)
theorem divOk_of {j : Int} {n : Nat} (z : 0 < j) (h : j.natAbs < 2 ^ n) (q : n ≤ 9000) : divOk j = true := by
  unfold divOk
  have a := log2_lt' (by omega : j.natAbs ≠ 0) h
  simp only [Bool.and_eq_true, decide_eq_true_eq]
  exact ⟨z, by omega⟩
theorem Bd.mono {m n : Nat} {x : Rat} (h : Bd m x) (k : m ≤ n) : Bd n x :=
  ⟨Nat.lt_of_lt_of_le h.num (Nat.pow_le_pow_right (by decide) k), Nat.lt_of_lt_of_le h.den (Nat.pow_le_pow_right (by decide) k)⟩
/-- lowest terms -/
theorem divInt_pos {p q : Int} (hq : 0 < q) : (Rat.divInt p q).num = p / ((Nat.gcd p.natAbs q.natAbs : Nat) : Int) ∧ ((Rat.divInt p q).den : Int) = q / ((Nat.gcd p.natAbs q.natAbs : Nat) : Int) := by
  obtain ⟨n, rfl⟩ := Int.eq_ofNat_of_zero_le (Int.le_of_lt hq)
  have hn : n ≠ 0 := by omega
  have e : Rat.divInt p (n : Int) = Rat.normalize p n hn := by
    rw [Rat.normalize_eq_mkRat]
    rfl
  rw [e, Rat.normalize_eq]
  refine ⟨?_, ?_⟩
  · show p / _ = _
    simp
  · show ((n / _ : Nat) : Int) = _
    simp
theorem divInt_bd {p q : Int} {n : Nat} (hq : q ≠ 0) (h1 : p.natAbs < 2 ^ n) (h2 : q.natAbs < 2 ^ n) : Bd n (Rat.divInt p q) := by
  have key : ∀ {p q : Int}, 0 < q → p.natAbs < 2 ^ n → q.natAbs < 2 ^ n → Bd n (Rat.divInt p q) := fun {p q} hq h1 h2 => by
    obtain ⟨a, b⟩ := divInt_pos (p := p) hq
    refine ⟨?_, ?_⟩
    · rw [a]
      refine Nat.lt_of_le_of_lt ?_ h1
      exact Int.natAbs_ediv_le_natAbs p _
    · have : ((Rat.divInt p q).den : Int) ≤ q := by
        rw [b]
        exact Int.ediv_le_self _ (Int.le_of_lt hq)
      omega
  by_cases z : 0 < q
  · exact key z h1 h2
  · have := key (p := -p) (q := -q) (by omega) (by omega) (by omega)
    rwa [Rat.neg_divInt_neg] at this
theorem num_ne {x : Rat} (h : x ≠ 0) : x.num ≠ 0 := fun z => h (Rat.num_eq_zero.mp z)
theorem add_div (x y : Rat) : Rat.divInt (x.num * y.den + y.num * x.den) (x.den * y.den) = x + y := by
  rw [← Rat.divInt_add_divInt _ _ (by have := x.den_nz; omega) (by have := y.den_nz; omega), Rat.num_divInt_den, Rat.num_divInt_den]
theorem sub_div (x y : Rat) : Rat.divInt (x.num * y.den - y.num * x.den) (x.den * y.den) = x - y := by
  rw [← Rat.divInt_sub_divInt _ _ (by have := x.den_nz; omega) (by have := y.den_nz; omega), Rat.num_divInt_den, Rat.num_divInt_den]
theorem mul_div (x y : Rat) : Rat.divInt (x.num * y.num) (x.den * y.den) = x * y := by
  rw [← Rat.divInt_mul_divInt, Rat.num_divInt_den, Rat.num_divInt_den]
theorem div_div (x y : Rat) : Rat.divInt (x.num * y.den) (x.den * y.num) = x / y := by
  rw [Rat.div_def, Rat.inv_def, ← Rat.divInt_mul_divInt, Rat.num_divInt_den]
theorem pow_two_add {m n : Nat} : (2 : Nat) ^ m * 2 ^ n = 2 ^ (m + n) := (Nat.pow_add 2 m n).symm
theorem natAbs_mul_lt {i j : Int} {m n : Nat} (h : i.natAbs < 2 ^ m) (k : j.natAbs < 2 ^ n) : (i * j).natAbs < 2 ^ (m + n) := by
  rw [Int.natAbs_mul, ← pow_two_add]
  exact Nat.mul_lt_mul'' h k
theorem natAbs_add_lt {i j : Int} {m : Nat} (h : i.natAbs < 2 ^ m) (k : j.natAbs < 2 ^ m) : (i + j).natAbs < 2 ^ (m + 1) := by
  rw [Nat.pow_succ]
  omega
theorem natAbs_sub_lt {i j : Int} {m : Nat} (h : i.natAbs < 2 ^ m) (k : j.natAbs < 2 ^ m) : (i - j).natAbs < 2 ^ (m + 1) := by
  rw [Nat.pow_succ]
  omega
theorem Bd.dn {n : Nat} {x : Rat} (h : Bd n x) : ((x.den : Nat) : Int).natAbs < 2 ^ n := by simpa using h.den
theorem den_ne (x : Rat) : (x.den : Int) ≠ 0 := by have := x.den_nz; omega
theorem den_pos (x : Rat) : (0 : Int) < x.den := by have := x.den_pos; omega
theorem Bd.add {m n : Nat} {x y : Rat} (h : Bd m x) (k : Bd n y) : Bd (m + n + 1) (x + y) := by
  rw [← add_div]
  have e : n + m = m + n := Nat.add_comm _ _
  refine divInt_bd (Int.mul_ne_zero (den_ne x) (den_ne y)) (natAbs_add_lt (natAbs_mul_lt h.num k.dn) (e ▸ natAbs_mul_lt k.num h.dn)) ?_
  exact Nat.lt_of_lt_of_le (natAbs_mul_lt h.dn k.dn) (Nat.pow_le_pow_right (by decide) (Nat.le_succ _))
theorem Bd.sub {m n : Nat} {x y : Rat} (h : Bd m x) (k : Bd n y) : Bd (m + n + 1) (x - y) := by
  rw [← sub_div]
  have e : n + m = m + n := Nat.add_comm _ _
  refine divInt_bd (Int.mul_ne_zero (den_ne x) (den_ne y)) (natAbs_sub_lt (natAbs_mul_lt h.num k.dn) (e ▸ natAbs_mul_lt k.num h.dn)) ?_
  exact Nat.lt_of_lt_of_le (natAbs_mul_lt h.dn k.dn) (Nat.pow_le_pow_right (by decide) (Nat.le_succ _))
theorem Bd.mul {m n : Nat} {x y : Rat} (h : Bd m x) (k : Bd n y) : Bd (m + n) (x * y) := by
  rw [← mul_div]
  exact divInt_bd (Int.mul_ne_zero (den_ne x) (den_ne y)) (natAbs_mul_lt h.num k.num) (natAbs_mul_lt h.dn k.dn)
theorem Bd.div {m n : Nat} {x y : Rat} (h : Bd m x) (k : Bd n y) (z : y ≠ 0) : Bd (m + n) (x / y) := by
  rw [← div_div]
  exact divInt_bd (Int.mul_ne_zero (den_ne x) (num_ne z)) (natAbs_mul_lt h.num k.dn) (natAbs_mul_lt h.dn k.num)
theorem Bd.neg {m : Nat} {x : Rat} (h : Bd m x) : Bd m (-x) := ⟨by rw [Rat.neg_num]; simpa using h.num, by rw [Rat.neg_den]; exact h.den⟩
@[simp] theorem dIx_R0 {x : Rat} : dIx (R x) (.int 0) = some (.F (.int x.num)) := by simp [R]
@[simp] theorem dIx_R1 {x : Rat} : dIx (R x) (.int 1) = some (.F (.int x.den)) := by simp [R]
@[simp] theorem lockD_R {x : Rat} : lockD (R x) = .F (R x) := rfl
@[simp] theorem dle_R {x : Rat} {k : Nat} : dle (k + 1) (R x) = true := by simp [R]
@[simp] theorem isNone_R {x : Rat} : isNone (R x) = false := rfl
@[simp] theorem dTru_R {x : Rat} : dTru (R x) = some true := rfl
theorem R_inj {x y : Rat} : R x = R y ↔ x = y := by
  unfold R
  refine ⟨fun h => ?_, fun h => by rw [h]⟩
  injection h with h
  injection h with h1 h2
  injection h1 with h1
  injection h2 with h2 h3
  injection h2 with h2
  exact Rat.ext h1 (by omega)
@[simp] theorem eqv_R {x y : Rat} : PyData.eqv (R x) (R y) = decide (x = y) := by
  unfold R
  simp only [eqv_t, eqvA_cons, eqv_i, eqvA_nil, Bool.and_true]
  rw [Bool.eq_iff_iff]
  simp only [Bool.and_eq_true, decide_eq_true_eq]
  refine ⟨fun ⟨a, b⟩ => Rat.ext a (by omega), fun h => by rw [h]; exact ⟨rfl, rfl⟩⟩
@[simp] theorem eqv_nR {x : Rat} : PyData.eqv .none (R x) = false := by simp [R]
@[simp] theorem eqv_Rn {x : Rat} : PyData.eqv (R x) .none = false := by simp [R]
@[simp] theorem eqv_Ri {x : Rat} {n : Int} : PyData.eqv (R x) (.int n) = false := by simp [R, PyData.eqv]
theorem R_sd {x : Rat} : Sd (R x) := .t fun y hy => by
  simp at hy
  rcases hy with rfl | rfl <;> exact .i
theorem R_of {p q : Int} {x : Rat} (h1 : x.num = p) (h2 : (x.den : Int) = q) : PyData.tuple [.int p, .int q] = R x := by unfold R; rw [h1, h2]
@[simp] theorem seqOf_R {x : Rat} : seqOf (R x) = some [.int x.num, .int x.den] := rfl
theorem lt_num {x y : Rat} : (x.num * y.den < y.num * x.den) ↔ x < y := (Rat.lt_iff x y).symm
@[simp] theorem R0 : PyData.tuple [.int 0, .int 1] = R 0 := rfl
@[simp] theorem R1 : PyData.tuple [.int 1, .int 1] = R 1 := rfl
@[simp] theorem R2 : PyData.tuple [.int 2, .int 1] = R 2 := rfl
theorem bd0 : Bd 1 0 := ⟨by decide, by decide⟩
theorem bd1 : Bd 1 1 := ⟨by decide, by decide⟩
theorem bd2 : Bd 2 2 := ⟨by decide, by decide⟩
end G

namespace G
open PySem PySem.Spec PyProof.Rows L2

/-! ### more rules -/
theorem lcR_map {g : SemT} {t : SemB} {e : Sem1} {vs : List Nat} {Γ : Env} {h : Int → D} : ∀ (n : Nat) (lo : Int), (∀ i, lo ≤ i → i < lo + n → ∃ Γ1 Γ2 vw Γ3 Γ4, g (.F (.int i)) Γ = some Γ1 ∧ t Γ1 = some (true, Γ2) ∧ e Γ2 = some (vw, Γ3) ∧ vw.fz Γ3 = some (h i, Γ4) ∧ wipeE vs Γ4 = Γ) →
    lcR g t e vs 1 n lo Γ = some ((List.range n).map (fun j : Nat => h (lo + (j : Int))), Γ)
  | 0, lo, _ => rfl
  | n + 1, lo, q => by
    obtain ⟨Γ1, Γ2, vw, Γ3, Γ4, e1, e2, e3, e4, e5⟩ := q lo (Int.le_refl _) (by omega)
    unfold lcR
    rw [e1]; dsimp only
    rw [e2]; dsimp only
    rw [e3]; dsimp only
    rw [e4]; dsimp only
    rw [e5, lcR_map n (lo + 1) fun i h1 h2 => q i (by omega) (by omega)]
    dsimp only
    congr 2
    rw [List.range_succ_eq_map, List.map_cons, List.map_map]
    congr 1
    · simp
    · refine List.map_congr_left fun j _ => ?_
      show h (lo + 1 + j) = h (lo + ((j + 1 : Nat) : Int))
      congr 1
      omega
section
variable {fI : SemR} {g : SemT} {t : SemB} {e : Sem1} {vs : List Nat} {Γ Γ1 Γ2 : G.Env} {out ds xs ys : List D} {lo c : Int} {n i : Nat}
theorem sLc_rg (h1 : fI Γ = some (.rg lo c n, Γ1)) (hn : n ≤ LIM) (h2 : lcR g t e vs c n lo (wipeE vs Γ1) = some (out, Γ2)) : sLc fI g t e vs Γ = some (.val (.O out), back Γ1 vs Γ2) := by
  unfold sLc
  rw [h1]
  show (if n ≤ LIM then match lcR g t e vs c n lo (wipeE vs Γ1) with
    | none => none
    | some (out, Γ2) => some (Vw.val (.O out), back Γ1 vs Γ2) else none) = _
  rw [if_pos hn, h2]
theorem sLc_li (h1 : fI Γ = some (.li ds, Γ1)) (hn : ds.length ≤ LIM) (h2 : lcL g t e vs ds (wipeE vs Γ1) = some (out, Γ2)) : sLc fI g t e vs Γ = some (.val (.O out), back Γ1 vs Γ2) := by
  unfold sLc
  rw [h1]
  show (if ds.length ≤ LIM then match lcL g t e vs ds (wipeE vs Γ1) with
    | none => none
    | some (out, Γ2) => some (Vw.val (.O out), back Γ1 vs Γ2) else none) = _
  rw [if_pos hn, h2]
theorem sLc_sl (h1 : fI Γ = some (.sl i xs, Γ1)) (hi : i ∉ vs) (hn : xs.length ≤ LIM) (h2 : lcL g t e vs xs (wipeE vs (Γ1.set i (some (.M xs)))) = some (out, Γ2)) (h3 : look Γ2 i = some (.M ys)) : sLc fI g t e vs Γ = some (.val (.O out), back Γ1 vs (Γ2.set i (some (.O ys)))) := by
  unfold sLc
  rw [h1]
  show (if i ∈ vs then none else if xs.length ≤ LIM then match lcL g t e vs xs (wipeE vs (Γ1.set i (some (.M xs)))) with
    | none => none
    | some (out, Γ2) => match look Γ2 i with
      | some (.M ys) => some (Vw.val (.O out), back Γ1 vs (Γ2.set i (some (.O ys))))
      | _ => none else none) = _
  rw [if_neg hi, if_pos hn, h2]
  show (match look Γ2 i with
      | some (.M ys) => some (Vw.val (.O out), back Γ1 vs (Γ2.set i (some (.O ys))))
      | _ => none) = _
  rw [h3]
end
theorem dAll_true {n : Nat} {l : List D} (h : l = (List.replicate n true).map PyData.bool) : dAll (.list l) = some (.F (.bool true)) := by
  subst h
  rw [dAll_bools]
  simp
theorem cutD_from {α : Type} (xs : List α) (k : Nat) : cutD xs (some (k : Int)) none = xs.drop k := by
  unfold cutD
  rw [HT.sIx_nat, HT.sIx_none]
  by_cases h : k ≤ xs.length
  · rw [Nat.min_eq_left h]
    exact List.take_of_length_le (by rw [List.length_drop]; omega)
  · rw [Nat.min_eq_right (by omega), List.drop_length, List.drop_eq_nil_of_le (by omega)]
    simp
@[simp] theorem cutD_1 {α : Type} {xs : List α} : cutD xs (some 1) none = xs.drop 1 := cutD_from xs 1
theorem sum_bd {a : Nat} : ∀ {xs : List Rat}, (∀ x ∈ xs, Bd a x) → Bd ((a + 1) * xs.length + 1) xs.sum
  | [], _ => by simpa using bd0
  | x :: xs, h => by
    rw [List.sum_cons]
    have e : (a + 1) * (x :: xs).length + 1 = a + ((a + 1) * xs.length + 1) + 1 := by rw [List.length_cons, Nat.mul_succ]; omega
    rw [e]
    exact (h x (by simp)).add (sum_bd fun y hy => h y (by simp [hy]))
/-- how deep, how long -/
inductive Sz : Nat → D → Prop where
  | n {k} : Sz k .none
  | i {k m} : Sz k (.int m)
  | s {k m} (h : m.length ≤ 16777216) : Sz k (.str m)
  | b {k m} : Sz k (.bool m)
  | t {k xs} (h : ∀ x ∈ xs, Sz k x) (l : xs.length ≤ 16777216) : Sz (k + 1) (.tuple xs)
  | l {k xs} (h : ∀ x ∈ xs, Sz k x) (l : xs.length ≤ 16777216) : Sz (k + 1) (.list xs)
theorem Sz.up {k : Nat} {d : D} (h : Sz k d) : Sz (k + 1) d := by
  induction h with
  | n => exact .n
  | i => exact .i
  | s h => exact .s h
  | b => exact .b
  | t _ l ih => exact .t ih l
  | l _ l ih => exact .l ih l
theorem Sz.mono {j k : Nat} {d : D} (h : Sz j d) (hk : j ≤ k) : Sz k d := by
  induction hk with
  | refl => exact h
  | step _ ih => exact ih.up
theorem Sz.sd {k : Nat} {d : D} (h : Sz k d) : Sd d := by
  induction h with
  | n => exact .n
  | i => exact .i
  | s => exact .s
  | b => exact .b
  | t _ _ ih => exact .t ih
  | l _ _ ih => exact .l ih
theorem Sz.dle {k : Nat} {d : D} (h : Sz k d) : G.dle k d = true := by
  induction h with
  | n => simp
  | i => simp
  | s => simp
  | b => simp
  | t _ _ ih => rw [dle_t, List.all_eq_true]; exact ih
  | l _ _ ih => rw [dle_l, List.all_eq_true]; exact ih
theorem Sz.R {x : Rat} : Sz 1 (G.R x) := .t (fun y hy => by
  simp at hy
  rcases hy with rfl | rfl <;> exact .i) (by simp)
/-- equal data is told equal, not different -/
theorem dEq_self {d : D} {k : Nat} (h : Sz k d) (hk : k ≤ 9) : dEq d d = some (.F (.bool true)) := by
  have e := (h.mono hk).dle
  simp [e, h.sd.refl]
theorem dNe_self {d : D} {k : Nat} (h : Sz k d) (hk : k ≤ 9) : dNe d d = some (.F (.bool false)) := by
  have e := (h.mono hk).dle
  simp [e, h.sd.refl]
end G

namespace G
open PySem PySem.Spec PyProof.Rows L2

/-! ### comprehensions over told items -/
def lcS (g : SemT) (t : SemB) (e : Sem1) (vs : List Nat) (d : D) (Γ : G.Env) : Option (D × G.Env) := match g (.F d) Γ with
  | none => none
  | some Γ1 => match t Γ1 with
    | some (true, Γ2) => match e Γ2 with
      | some (vw, Γ3) => match vw.fz Γ3 with
        | some (x, Γ4) => some (x, wipeE vs Γ4)
        | none => none
      | none => none
    | _ => none
section
variable {fI : SemR} {g : SemT} {t : SemB} {e : Sem1} {vs : List Nat} {Γ Γ1 Γ2 : G.Env} {lo c : Int} {n i : Nat} {α : Type}
theorem lcL_cons {d : D} {ds : List D} : lcL g t e vs (d :: ds) Γ = match g (.F d) Γ with
    | none => none
    | some Γ1 => match t Γ1 with
      | none => none
      | some (false, Γ2) => lcL g t e vs ds (wipeE vs Γ2)
      | some (true, Γ2) => match e Γ2 with
        | none => none
        | some (vw, Γ3) => match vw.fz Γ3 with
          | none => none
          | some (d, Γ4) => match lcL g t e vs ds (wipeE vs Γ4) with
            | none => none
            | some (ds, Γ5) => some (d :: ds, Γ5) := rfl
theorem lcS_cons {d x : D} {ds : List D} (h : lcS g t e vs d Γ = some (x, Γ1)) : lcL g t e vs (d :: ds) Γ = match lcL g t e vs ds Γ1 with
    | none => none
    | some (ds, Γ5) => some (x :: ds, Γ5) := by
  rw [lcL_cons]
  unfold lcS at h
  cases e1 : g (.F d) Γ with
  | none => rw [e1] at h; cases h
  | some Γa =>
    rw [e1] at h
    dsimp only at h ⊢
    cases e2 : t Γa with
    | none => rw [e2] at h; cases h
    | some p =>
      obtain ⟨b, Γb⟩ := p
      rw [e2] at h
      cases b with
      | false => cases h
      | true =>
        dsimp only at h ⊢
        cases e3 : e Γb with
        | none => rw [e3] at h; cases h
        | some p =>
          obtain ⟨vw, Γc⟩ := p
          rw [e3] at h
          dsimp only at h ⊢
          cases e4 : vw.fz Γc with
          | none => rw [e4] at h; cases h
          | some p =>
            obtain ⟨y, Γd⟩ := p
            rw [e4] at h
            cases h
            rfl
theorem lcL_enc (enc f : α → D) : ∀ {ls : List α}, (∀ a ∈ ls, lcS g t e vs (enc a) Γ = some (f a, Γ)) → lcL g t e vs (ls.map enc) Γ = some (ls.map f, Γ)
  | [], _ => rfl
  | a :: ls, h => by
    rw [List.map_cons, lcS_cons (h a (by simp)), lcL_enc enc f fun b hb => h b (by simp [hb])]
    rfl
theorem sLc_enc (enc f : α → D) (ls : List α) (h1 : fI Γ = some (.li (ls.map enc), Γ1)) (hn : ls.length ≤ 16777216) (h : ∀ a ∈ ls, lcS g t e vs (enc a) (wipeE vs Γ1) = some (f a, wipeE vs Γ1)) :
    sLc fI g t e vs Γ = some (.val (.O (ls.map f)), back Γ1 vs (wipeE vs Γ1)) :=
  sLc_li h1 (by rw [List.length_map]; exact hn) (lcL_enc enc f h)
theorem sLc_encS (enc f : α → D) (ls : List α) (h1 : fI Γ = some (.sl i (ls.map enc), Γ1)) (hi : i ∉ vs) (hn : ls.length ≤ 16777216) (hl : look (wipeE vs (Γ1.set i (some (.M (ls.map enc))))) i = some (.M (ls.map enc)))
    (h : ∀ a ∈ ls, lcS g t e vs (enc a) (wipeE vs (Γ1.set i (some (.M (ls.map enc))))) = some (f a, wipeE vs (Γ1.set i (some (.M (ls.map enc)))))) :
    sLc fI g t e vs Γ = some (.val (.O (ls.map f)), back Γ1 vs ((wipeE vs (Γ1.set i (some (.M (ls.map enc))))).set i (some (.O (ls.map enc))))) :=
  sLc_sl h1 hi (by rw [List.length_map]; exact hn) (lcL_enc enc f h) hl
end
/-! ### fractions in order -/
theorem rat_pos_ne {x : Rat} (h : 0 < x) : x ≠ 0 := fun e => by subst e; exact absurd h (by decide)
end G

namespace G
open PySem PySem.Spec PyProof.Rows L2

/-! ### denominators: n times x is whole -/
def Dv (n : Nat) (x : Rat) : Prop := ∃ k : Int, x * (n : Rat) = (k : Rat)
theorem Dv.int (k : Int) : Dv 1 (k : Rat) := ⟨k, by simp⟩
theorem Dv.up {n m : Nat} {x : Rat} (h : Dv n x) (c : Nat) (e : m = n * c) : Dv m x := by
  obtain ⟨k, hk⟩ := h
  refine ⟨k * c, ?_⟩
  subst e
  rw [Rat.natCast_mul, ← Rat.mul_assoc, hk, Rat.intCast_mul]
  rfl
theorem Dv.add {n : Nat} {x y : Rat} (h : Dv n x) (k : Dv n y) : Dv n (x + y) := by
  obtain ⟨a, ha⟩ := h
  obtain ⟨b, hb⟩ := k
  refine ⟨a + b, ?_⟩
  rw [Rat.add_mul, ha, hb, Rat.intCast_add]
theorem Dv.sub {n : Nat} {x y : Rat} (h : Dv n x) (k : Dv n y) : Dv n (x - y) := by
  obtain ⟨a, ha⟩ := h
  obtain ⟨b, hb⟩ := k
  refine ⟨a - b, ?_⟩
  rw [Rat.intCast_sub, ← ha, ← hb]
  grind
theorem Dv.mul {n m : Nat} {x y : Rat} (h : Dv n x) (k : Dv m y) : Dv (n * m) (x * y) := by
  obtain ⟨a, ha⟩ := h
  obtain ⟨b, hb⟩ := k
  refine ⟨a * b, ?_⟩
  rw [Rat.intCast_mul, ← ha, ← hb, Rat.natCast_mul]
  grind
theorem Dv.zero {n : Nat} : Dv n 0 := ⟨0, by simp⟩
theorem Dv.sum {n : Nat} : ∀ {xs : List Rat}, (∀ x ∈ xs, Dv n x) → Dv n xs.sum
  | [], _ => by simpa using Dv.zero
  | x :: xs, h => by
    rw [List.sum_cons]
    exact (h x (by simp)).add (Dv.sum fun y hy => h y (by simp [hy]))
/-- what is not nought is not small -/
theorem Dv.least {n : Nat} {x : Rat} (h : Dv n x) (h0 : 0 < x) (hn : 0 < n) : 1 ≤ x * (n : Rat) := by
  obtain ⟨k, hk⟩ := h
  have hn' : (0 : Rat) < (n : Rat) := by exact_mod_cast hn
  have h1 : 0 < x * (n : Rat) := Rat.mul_pos h0 hn'
  rw [hk] at h1 ⊢
  have : 0 < k := by exact_mod_cast h1
  have : (1 : Int) ≤ k := by omega
  exact_mod_cast this
end G

namespace G
open PySem PySem.Spec PyProof.Rows L2

/-! ### running a block statement by statement -/
def nxt (g : SemS) : Option (Fl × G.Env) → Option (Fl × G.Env)
  | some (.nx, Γ1) => g Γ1
  | some (fl, Γ1) => some (fl, Γ1)
  | none => none
theorem cSeq_go {f g : SemS} {Γ : G.Env} {r1 r : Option (Fl × G.Env)} (h : f Γ = r1) (k : nxt g r1 = r) : cSeq f g Γ = r := by
  subst h; rw [← k]; rw [cSeq_ap]; rfl
theorem cFor_rg {as : As} {n : Int} {g : SemT} {b : SemS} {Γ : G.Env} {r : Option (Fl × G.Env)} (hr : rgOk n = true) (e : forR g b 1 n.toNat 0 Γ = r) : cFor as (rRg1 (aCons (sData (.int n)) aNil)) g b Γ = r := by
  rw [cFor_ap]; simp [hr, Src.loop, e]
theorem cFor_li {as : As} {fI : SemR} {g : SemT} {b : SemS} {Γ Γ1 : G.Env} {ds : List D} {r : Option (Fl × G.Env)} (h : fI Γ = some (.li ds, Γ1)) (e : forL g b ds Γ1 = r) : cFor as fI g b Γ = r := by
  rw [cFor_ap, h]; exact e
theorem cFor_sl {as : As} {fI : SemR} {g : SemT} {b : SemS} {Γ Γ1 Γ2 : G.Env} {i : Nat} {xs ys : List D} (h : fI Γ = some (.sl i xs, Γ1)) (ha : as i = false) (e : forL g b xs (Γ1.set i (some (.M xs))) = some (.nx, Γ2)) (hl : look Γ2 i = some (.M ys)) : cFor as fI g b Γ = some (.nx, Γ2.set i (some (.O ys))) := by
  rw [cFor_ap, h]
  show (if as i = true then none else match forL g b xs (Γ1.set i (some (.M xs))) with
      | none => none
      | some (fl, Γ2) => match look Γ2 i with
        | some (.M ys) => if fl.ok = true then some (fl, Γ2.set i (some (.O ys))) else none
        | _ => none) = _
  rw [ha, e]
  simp [hl]
def forB (as : As) (g : SemT) (b : SemS) : Option (Src × G.Env) → Option (Fl × G.Env)
  | none => none
  | some (.sl i xs, Γ1) => if as i = true then none else match forL g b xs (Γ1.set i (some (.M xs))) with
      | none => none
      | some (fl, Γ2) => match look Γ2 i with
        | some (.M ys) => if fl.ok = true then some (fl, Γ2.set i (some (.O ys))) else none
        | _ => none
  | some (.li ds, Γ1) => forL g b ds Γ1
  | some (.rg lo c n, Γ1) => forR g b c n lo Γ1
theorem cFor_go {as : As} {fI : SemR} {g : SemT} {b : SemS} {Γ : G.Env} {r0 : Option (Src × G.Env)} {r : Option (Fl × G.Env)} (h : fI Γ = r0) (e : forB as g b r0 = r) : cFor as fI g b Γ = r := by
  rw [cFor_ap, h]
  subst e
  cases r0 with
  | none => rfl
  | some p =>
    obtain ⟨s, Γ1⟩ := p
    cases s <;> rfl
theorem cIf_t {t : SemB} {f g : SemS} {Γ Γ1 : G.Env} {r : Option (Fl × G.Env)} (c : t Γ = some (true, Γ1)) (h : f Γ1 = r) : cIf t f g Γ = r := by rw [cIf_ap, c]; exact h
theorem cIf_f {t : SemB} {f g : SemS} {Γ Γ1 : G.Env} {r : Option (Fl × G.Env)} (c : t Γ = some (false, Γ1)) (h : g Γ1 = r) : cIf t f g Γ = r := by rw [cIf_ap, c]; exact h
theorem cal_rt {n k : Nat} {io : Bool} {f : SemS} {cs : List Cell} {Γ : G.Env} {c : Cell} (h : cs.length = n) (e : f (cs.map some ++ List.replicate (k - n) none) = some (.rt c, Γ)) : fnCal n io k f cs = some (c, if io = true then look Γ 0 else none) := by
  rw [fnCal_ap, if_pos h, e]
theorem cal_nx {n k : Nat} {io : Bool} {f : SemS} {cs : List Cell} {Γ : G.Env} (h : cs.length = n) (e : f (cs.map some ++ List.replicate (k - n) none) = some (.nx, Γ)) : fnCal n io k f cs = some (.F .none, if io = true then look Γ 0 else none) := by
  rw [fnCal_ap, if_pos h, e]
/-! ### fractions -/
theorem rnum_pos {x : Rat} : 0 < x.num ↔ 0 < x := by
  have a := Rat.num_nonneg (q := x)
  have b := Rat.num_eq_zero (q := x)
  have c : ∀ y : Rat, 0 < y ↔ 0 ≤ y ∧ y ≠ 0 := fun y => ⟨fun h => ⟨Rat.le_of_lt h, rat_pos_ne h⟩, fun ⟨h1, h2⟩ => by grind⟩
  rw [c, ← a]
  constructor
  · intro h; exact ⟨by omega, fun z => by rw [← b] at z; omega⟩
  · intro ⟨h1, h2⟩; have : x.num ≠ 0 := fun z => h2 (b.mp z); omega
theorem rnum_neg {x : Rat} : x.num < 0 ↔ x < 0 := by
  have a := Rat.num_nonneg (q := x)
  constructor
  · intro h
    have : ¬ 0 ≤ x := fun z => by rw [← a] at z; omega
    grind
  · intro h
    have : ¬ 0 ≤ x.num := fun z => by rw [a] at z; grind
    omega
theorem rnum_zero {x : Rat} : x.num = 0 ↔ x = 0 := Rat.num_eq_zero
theorem R_int {z : Int} : PyData.tuple [.int z, .int 1] = R (z : Rat) := R_of (by simp) (by simp)
theorem int_bd {z : Int} {n : Nat} (h : z.natAbs < 2 ^ n) (h1 : 1 ≤ n) : Bd n (z : Rat) := ⟨by simpa using h, by
  rw [Rat.den_intCast]
  exact Nat.lt_of_lt_of_le (by decide : 1 < 2 ^ 1) (Nat.pow_le_pow_right (by decide) h1)⟩
theorem sq_nn (z : Rat) : 0 ≤ z * z := by
  by_cases c : 0 ≤ z
  · exact Rat.mul_nonneg c c
  · have := Rat.mul_nonneg (show 0 ≤ -z by grind) (show 0 ≤ -z by grind)
    grind
theorem sq_nz {z : Rat} (h : z ≠ 0) : 0 < z * z := by
  have := sq_nn z
  have : z * z ≠ 0 := by grind
  grind
theorem divInt_nn' {v q : Int} (h : 0 < v) (h2 : 0 < q) : 0 < Rat.divInt v q := by
  have q0 : (0 : Rat) < (q : Rat) := by exact_mod_cast h2
  have v0 : (0 : Rat) < (v : Rat) := by exact_mod_cast h
  rw [Rat.divInt_eq_div, Rat.div_def]
  exact Rat.mul_pos v0 (Rat.inv_pos.mpr q0)
end G
namespace G
open PySem PySem.Spec PyProof.Rows L2
theorem lcR_zero {g : SemT} {t : SemB} {e : Sem1} {vs : List Nat} {c lo : Int} {Γ : G.Env} : lcR g t e vs c 0 lo Γ = some ([], Γ) := rfl
theorem lcR_succ {g : SemT} {t : SemB} {e : Sem1} {vs : List Nat} {c lo : Int} {n : Nat} {Γ : G.Env} : lcR g t e vs c (n + 1) lo Γ = match g (.F (.int lo)) Γ with
    | none => none
    | some Γ1 => match t Γ1 with
      | none => none
      | some (false, Γ2) => lcR g t e vs c n (lo + c) (wipeE vs Γ2)
      | some (true, Γ2) => match e Γ2 with
        | none => none
        | some (vw, Γ3) => match vw.fz Γ3 with
          | none => none
          | some (d, Γ4) => match lcR g t e vs c n (lo + c) (wipeE vs Γ4) with
            | none => none
            | some (ds, Γ5) => some (d :: ds, Γ5) := rfl
theorem any_false {α : Type} {f : α → Bool} {xs : List α} (h : ∀ x ∈ xs, f x = false) : dAny (.list (xs.map fun x => .bool (f x))) = some (.F (.bool false)) := by
  have e : xs.map (fun x => PyData.bool (f x)) = (xs.map f).map PyData.bool := by rw [List.map_map]; rfl
  rw [e, dAny_bools]
  congr 3
  simp only [List.any_map, List.any_eq_false]
  intro x hx
  simp [h x hx]
end G
namespace G
open PySem PySem.Spec PyProof.Rows L2
theorem lcR_go {g : SemT} {t : SemB} {e : Sem1} {vs : List Nat} {c lo : Int} {n : Nat} {Γ Γ1 Γ2 Γ3 Γ4 Γ5 : G.Env} {vw : Vw} {d : D} {ds : List D} (h1 : g (.F (.int lo)) Γ = some Γ1) (h2 : t Γ1 = some (true, Γ2)) (h3 : e Γ2 = some (vw, Γ3)) (h4 : vw.fz Γ3 = some (d, Γ4)) (h5 : lcR g t e vs c n (lo + c) (wipeE vs Γ4) = some (ds, Γ5)) : lcR g t e vs c (n + 1) lo Γ = some (d :: ds, Γ5) := by
  rw [lcR_succ, h1]; dsimp only
  rw [h2]; dsimp only
  rw [h3]; dsimp only
  rw [h4]; dsimp only
  rw [h5]
end G
namespace G
open PySem PySem.Spec PyProof.Rows L2
theorem forR_go {g : SemT} {b : SemS} {c lo : Int} {n : Nat} {Γ Γ1 Γ2 : G.Env} {r : Option (Fl × G.Env)} (h1 : g (.F (.int lo)) Γ = some Γ1) (h2 : b Γ1 = some (.nx, Γ2)) (h3 : forR g b c n (lo + c) Γ2 = r) : forR g b c (n + 1) lo Γ = r := by
  rw [forR_succ, h1]; dsimp only
  rw [h2]; exact h3
theorem forL_go {g : SemT} {b : SemS} {d : D} {ds : List D} {Γ Γ1 Γ2 : G.Env} {r : Option (Fl × G.Env)} (h1 : g (.F d) Γ = some Γ1) (h2 : b Γ1 = some (.nx, Γ2)) (h3 : forL g b ds Γ2 = r) : forL g b (d :: ds) Γ = r := by
  rw [forL_cons, h1]; dsimp only
  rw [h2]; exact h3
theorem lcL_filt {α : Type} {g : SemT} {t : SemB} {e : Sem1} {vs : List Nat} {Γ : G.Env} (enc f : α → D) (p : α → Bool) : ∀ {ls : List α}, (∀ a ∈ ls, ∃ Γ1 Γ2, g (.F (enc a)) Γ = some Γ1 ∧ t Γ1 = some (p a, Γ2) ∧ (p a = false → wipeE vs Γ2 = Γ) ∧ (p a = true → ∃ vw Γ3 Γ4, e Γ2 = some (vw, Γ3) ∧ vw.fz Γ3 = some (f a, Γ4) ∧ wipeE vs Γ4 = Γ)) →
    lcL g t e vs (ls.map enc) Γ = some ((ls.filter p).map f, Γ)
  | [], _ => rfl
  | a :: ls, h => by
    obtain ⟨Γ1, Γ2, h1, h2, h3, h4⟩ := h a (by simp)
    have ih := lcL_filt enc f p (ls := ls) fun b hb => h b (by simp [hb])
    rw [List.map_cons, lcL_cons, h1]; dsimp only
    rw [h2]
    cases hp : p a with
    | false =>
      dsimp only
      rw [h3 hp, ih, List.filter_cons_of_neg (by simp [hp])]
    | true =>
      obtain ⟨vw, Γ3, Γ4, e1, e2, e3⟩ := h4 hp
      dsimp only
      rw [e1]; dsimp only
      rw [e2]; dsimp only
      rw [e3, ih, List.filter_cons_of_pos (by simp [hp])]
      rfl
theorem sLc_filtS {α : Type} {fI : SemR} {g : SemT} {t : SemB} {e : Sem1} {vs : List Nat} {Γ Γ1 : G.Env} {i : Nat} (enc f : α → D) (p : α → Bool) (ls : List α) (h1 : fI Γ = some (.sl i (ls.map enc), Γ1)) (hi : i ∉ vs) (hn : ls.length ≤ 16777216) (hl : look (wipeE vs (Γ1.set i (some (.M (ls.map enc))))) i = some (.M (ls.map enc)))
    (h : ∀ a ∈ ls, ∃ Γ2 Γ3, g (.F (enc a)) (wipeE vs (Γ1.set i (some (.M (ls.map enc))))) = some Γ2 ∧ t Γ2 = some (p a, Γ3) ∧ (p a = false → wipeE vs Γ3 = wipeE vs (Γ1.set i (some (.M (ls.map enc))))) ∧ (p a = true → ∃ vw Γ4 Γ5, e Γ3 = some (vw, Γ4) ∧ vw.fz Γ4 = some (f a, Γ5) ∧ wipeE vs Γ5 = wipeE vs (Γ1.set i (some (.M (ls.map enc)))))) :
    sLc fI g t e vs Γ = some (.val (.O ((ls.filter p).map f)), back Γ1 vs ((wipeE vs (Γ1.set i (some (.M (ls.map enc))))).set i (some (.O (ls.map enc))))) :=
  sLc_sl h1 hi (by rw [List.length_map]; exact hn) (lcL_filt enc f p h) hl
theorem sLc_filt {α : Type} {fI : SemR} {g : SemT} {t : SemB} {e : Sem1} {vs : List Nat} {Γ Γ1 : G.Env} (enc f : α → D) (p : α → Bool) (ls : List α) (h1 : fI Γ = some (.li (ls.map enc), Γ1)) (hn : ls.length ≤ 16777216)
    (h : ∀ a ∈ ls, ∃ Γ2 Γ3, g (.F (enc a)) (wipeE vs Γ1) = some Γ2 ∧ t Γ2 = some (p a, Γ3) ∧ (p a = false → wipeE vs Γ3 = wipeE vs Γ1) ∧ (p a = true → ∃ vw Γ4 Γ5, e Γ3 = some (vw, Γ4) ∧ vw.fz Γ4 = some (f a, Γ5) ∧ wipeE vs Γ5 = wipeE vs Γ1)) :
    sLc fI g t e vs Γ = some (.val (.O ((ls.filter p).map f)), back Γ1 vs (wipeE vs Γ1)) :=
  sLc_li h1 (by rw [List.length_map]; exact hn) (lcL_filt enc f p h)
end G

namespace K75
open PySem PySem.Spec PyProof.Rows L2 G
def topS (i : Nat) : Stmt := PySem.Challenge.pw_trusswork_k75_lines_of_plans_and_deeds.main.body.getD i (.Pass ⟨0, 0, 0, 0⟩)
def CS : List (Str × D) := [("LETTERS", (.str "abcdefghijklmnopqrstuvwxyz")), ("DIGITS", (.str "0123456789")), ("WAYS", (.tuple [(.str "both"), (.str "x"), (.str "y")]))]
def BL : List Str := ["len", "int", "abs", "str", "list", "tuple", "all", "any", "max", "min", "sorted", "range", "isinstance", "dict", "bool"]
def GC : List Str := []
abbrev st_number_word : Stmt := topS 4
def s_number_word : SemS :=
  (cSeq (cRet false (sIte (asB (s2 dEq (s2 dIx (sVar 0) (sData (.int 1))) (sData (.int 1)))) (s1 dStr (s2 dIx (sVar 0) (sData (.int 0)))) (s2 dAdd (s2 dAdd (s1 dStr (s2 dIx (sVar 0) (sData (.int 0)))) (sData (.str "/"))) (s1 dStr (s2 dIx (sVar 0) (sData (.int 1)))))))
  cNil)
def c_number_word : Cal := fnCal 1 false 1 s_number_word
abbrev i_number_word : FI := ⟨[.lk], false, c_number_word⟩
def T_number_word : Tc := ⟨["number"], defScope st_number_word, fun _ => true, [], CS, BL, GC, 1000000, false⟩
theorem sc_number_word : FnScope ["number"] ["number"] (defScope st_number_word) := ⟨rfl, rfl, rfl, by decide +kernel, rfl, by decide +kernel, by decide +kernel⟩
theorem rd_number_word : lstS (trS 60 (T_number_word)) (defBody st_number_word) = some ([], s_number_word) := by kernel_rfl
abbrev st_line_of : Stmt := topS 5
def s_line_of : SemS :=
  (cSeq (cIf (asB (s2 dEq (s2 dIx (sVar 0) (sData (.int 0))) (sData (.str "do")))) (cSeq (cRet false (sM1 isS dJoin (sData (.str " ")) (s2 dAdd (sLst (aCons (sData (.str "do")) aNil)) (sLc (rSq (s2 dIx (sVar 0) (sData (.int 1)))) (gNm 2) bYes (s1 dStr (sVar 2)) [2]))))
  cNil) cNil)
  (cSeq (cIf (asB (s2 dEq (s2 dIx (sVar 0) (sData (.int 0))) (sData (.str "drop")))) (cSeq (cRet false (s2 dAdd (sData (.str "drop ")) (s1 dStr (s2 dIx (sVar 0) (sData (.int 1))))))
  cNil) cNil)
  (cSeq (cAsg (s2 dIx (sVar 0) (sData (.int 1))) (gNm 1))
  (cSeq (cIf (asB (s2 dEq (s2 dIx (sVar 1) (sData (.int 0))) (sData (.str "joint")))) (cSeq (cRet false (sM1 isS dJoin (sData (.str " ")) (sLst (aCons (sData (.str "plan")) (aCons (sData (.str "joint")) (aCons (s2 dIx (sVar 1) (sData (.int 1))) (aCons (sCall c_number_word [.lk] (iCons .lk (s2 dIx (s2 dIx (sVar 1) (sData (.int 2))) (sData (.int 0))) iNil)) (aCons (sCall c_number_word [.lk] (iCons .lk (s2 dIx (s2 dIx (sVar 1) (sData (.int 2))) (sData (.int 1))) iNil)) aNil))))))))
  cNil) cNil)
  (cSeq (cIf (asB (s2 dEq (s2 dIx (sVar 1) (sData (.int 0))) (sData (.str "hold")))) (cSeq (cRet false (sM1 isS dJoin (sData (.str " ")) (sLst (aCons (sData (.str "plan")) (aCons (sData (.str "hold")) (aCons (s2 dIx (sVar 1) (sData (.int 1))) (aCons (sIte (asB (s2 dIsNot (s2 dIx (sVar 1) (sData (.int 2))) (sData .none))) (s2 dIx (sVar 1) (sData (.int 2))) (sData (.str "free"))) aNil)))))))
  cNil) cNil)
  (cSeq (cRet false (sM1 isS dJoin (sData (.str " ")) (sLst (aCons (sData (.str "plan")) (aCons (s2 dIx (sVar 1) (sData (.int 0))) (aCons (s2 dIx (sVar 1) (sData (.int 1))) (aCons (s2 dIx (sVar 1) (sData (.int 2))) aNil)))))))
  cNil))))))
def c_line_of : Cal := fnCal 1 false 3 s_line_of
abbrev i_line_of : FI := ⟨[.lk], false, c_line_of⟩
def T_line_of : Tc := ⟨["entry", "change", "number"], defScope st_line_of, fun _ => true, [("number_word", i_number_word)], CS, BL, GC, 1000000, false⟩
theorem sc_line_of : FnScope ["entry", "change", "number"] ["entry"] (defScope st_line_of) := ⟨rfl, rfl, rfl, by decide +kernel, rfl, by decide +kernel, by decide +kernel⟩
theorem rd_line_of : lstS (trS 60 (T_line_of)) (defBody st_line_of) = some ([1], s_line_of) := by kernel_rfl
abbrev st_is_name : Stmt := topS 6
def s_is_name : SemS :=
  (cSeq (cRet false (sAndV (sChain dLe dLe (sData (.int 1)) (s1 dLen (sVar 0)) (sData (.int 12))) (sAndV (sAlt (s2 dIn (s2 dIx (sVar 0) (sData (.int 0))) (sData (.str "abcdefghijklmnopqrstuvwxyz"))) (s2 dInS (s2 dIx (sVar 0) (sData (.int 0))) (sData (.str "abcdefghijklmnopqrstuvwxyz")))) (s1 dAll (sLc (rSq (sVar 0)) (gNm 1) bYes (sOrV (sAlt (s2 dIn (sVar 1) (sData (.str "abcdefghijklmnopqrstuvwxyz"))) (s2 dInS (sVar 1) (sData (.str "abcdefghijklmnopqrstuvwxyz")))) (sAlt (s2 dIn (sVar 1) (sData (.str "0123456789"))) (s2 dInS (sVar 1) (sData (.str "0123456789"))))) [1])))))
  cNil)
def c_is_name : Cal := fnCal 1 false 2 s_is_name
abbrev i_is_name : FI := ⟨[.lk], false, c_is_name⟩
def T_is_name : Tc := ⟨["word", "sign"], defScope st_is_name, fun _ => true, [], CS, BL, GC, 1000000, false⟩
theorem sc_is_name : FnScope ["word", "sign"] ["word"] (defScope st_is_name) := ⟨rfl, rfl, rfl, by decide +kernel, rfl, by decide +kernel, by decide +kernel⟩
theorem rd_is_name : lstS (trS 60 (T_is_name)) (defBody st_is_name) = some ([], s_is_name) := by kernel_rfl
abbrev st_whole_in : Stmt := topS 7
def s_whole_in : SemS :=
  (cSeq (cAsg (sIte (asB (s2 dEq (sSl (sVar 0) oNone (oSome (sData (.int 1)))) (sData (.str "-")))) (sSl (sVar 0) (oSome (sData (.int 1))) oNone) (sVar 0)) (gNm 1))
  (cSeq (cIf (sOrB (sNotB (asB (sChain dLe dLe (sData (.int 1)) (s1 dLen (sVar 1)) (sData (.int 9))))) (sNotB (sTru (s1 dAll (sLc (rSq (sVar 1)) (gNm 2) bYes (sAlt (s2 dIn (sVar 2) (sData (.str "0123456789"))) (s2 dInS (sVar 2) (sData (.str "0123456789")))) [2]))))) (cSeq (cRet false (sData .none))
  cNil) cNil)
  (cSeq (cIf (sAndB (asB (s2 dEq (s2 dIx (sVar 1) (sData (.int 0))) (sData (.str "0")))) (asB (s2 dNe (sVar 0) (sData (.str "0"))))) (cSeq (cRet false (sData .none))
  cNil) cNil)
  (cSeq (cRet false (sAlt (s1 dInt (sVar 0)) (s1 dIntS (sVar 0))))
  cNil))))
def c_whole_in : Cal := fnCal 1 false 3 s_whole_in
abbrev i_whole_in : FI := ⟨[.lk], false, c_whole_in⟩
def T_whole_in : Tc := ⟨["word", "digits", "sign"], defScope st_whole_in, fun _ => true, [], CS, BL, GC, 1000000, false⟩
theorem sc_whole_in : FnScope ["word", "digits", "sign"] ["word"] (defScope st_whole_in) := ⟨rfl, rfl, rfl, by decide +kernel, rfl, by decide +kernel, by decide +kernel⟩
theorem rd_whole_in : lstS (trS 60 (T_whole_in)) (defBody st_whole_in) = some ([1], s_whole_in) := by kernel_rfl
abbrev st_shares : Stmt := topS 8
def s_shares : SemS :=
  (cSeq (cPar 0 1 (aCons (s1 dAbs (sVar 0)) (aCons (sVar 1) aNil)))
  (cSeq (whF (sTru (sVar 1)) (cSeq (cPar 0 1 (aCons (sVar 1) (aCons (s2 dMod (sVar 0) (sVar 1)) aNil)))
  cNil) 1000000)
  (cSeq (cRet false (s2 dGt (sVar 0) (sData (.int 1))))
  cNil)))
def c_shares : Cal := fnCal 2 false 2 s_shares
abbrev i_shares : FI := ⟨[.lk, .lk], false, c_shares⟩
def T_shares : Tc := ⟨["one", "other"], defScope st_shares, fun _ => true, [], CS, BL, GC, 1000000, false⟩
theorem sc_shares : FnScope ["one", "other"] ["one", "other"] (defScope st_shares) := ⟨rfl, rfl, rfl, by decide +kernel, rfl, by decide +kernel, by decide +kernel⟩
theorem rd_shares : lstS (trS 60 (T_shares)) (defBody st_shares) = some ([0, 1, 0, 1], s_shares) := by kernel_rfl
abbrev st_number_in : Stmt := topS 9
def s_number_in : SemS :=
  (cSeq (cAsg (sM1 isS dSplit (sVar 0) (sData (.str "/"))) (gNm 1))
  (cSeq (cAsg (sLc (rSq (sVar 1)) (gNm 3) bYes (sCall c_whole_in [.lk] (iCons .lk (sVar 3) iNil)) [3]) (gNm 2))
  (cSeq (cIf (sOrB (asB (sAlt (s2 dIn (sData .none) (sVar 2)) (s2 dInS (sData .none) (sVar 2)))) (asB (s2 dGt (s1 dLen (sVar 1)) (sData (.int 2))))) (cSeq (cRet false (sData .none))
  cNil) cNil)
  (cSeq (cIf (asB (s2 dEq (s1 dLen (sVar 1)) (sData (.int 1)))) (cSeq (cRet false (sTup (aCons (s2 dIx (sVar 2) (sData (.int 0))) (aCons (sData (.int 1)) aNil))))
  cNil) cNil)
  (cSeq (cIf (sOrB (asB (s2 dLt (s2 dIx (sVar 2) (sData (.int 1))) (sData (.int 2)))) (sTru (sCall c_shares [.lk, .lk] (iCons .lk (s2 dIx (sVar 2) (sData (.int 0))) (iCons .lk (s2 dIx (sVar 2) (sData (.int 1))) iNil))))) (cSeq (cRet false (sData .none))
  cNil) cNil)
  (cSeq (cRet false (sTup (aCons (s2 dIx (sVar 2) (sData (.int 0))) (aCons (s2 dIx (sVar 2) (sData (.int 1))) aNil))))
  cNil))))))
def c_number_in : Cal := fnCal 1 false 4 s_number_in
abbrev i_number_in : FI := ⟨[.lk], false, c_number_in⟩
def T_number_in : Tc := ⟨["word", "parts", "numbers", "part"], defScope st_number_in, fun _ => true, [("whole_in", i_whole_in), ("shares", i_shares)], CS, BL, GC, 1000000, false⟩
theorem sc_number_in : FnScope ["word", "parts", "numbers", "part"] ["word"] (defScope st_number_in) := ⟨rfl, rfl, rfl, by decide +kernel, rfl, by decide +kernel, by decide +kernel⟩
theorem rd_number_in : lstS (trS 60 (T_number_in)) (defBody st_number_in) = some ([1, 2], s_number_in) := by kernel_rfl
abbrev st_change_in : Stmt := topS 10
def s_change_in : SemS :=
  (cSeq (cIf (sAndB (asB (s2 dEq (s1 dLen (sVar 0)) (sData (.int 4)))) (sAndB (asB (s2 dEq (s2 dIx (sVar 0) (sData (.int 0))) (sData (.str "joint")))) (sTru (sCall c_is_name [.lk] (iCons .lk (s2 dIx (sVar 0) (sData (.int 1))) iNil))))) (cSeq (cAsg (sTup (aCons (sCall c_number_in [.lk] (iCons .lk (s2 dIx (sVar 0) (sData (.int 2))) iNil)) (aCons (sCall c_number_in [.lk] (iCons .lk (s2 dIx (sVar 0) (sData (.int 3))) iNil)) aNil))) (gNm 1))
  (cSeq (cRet false (sIte (asB (sAlt (s2 dIn (sData .none) (sVar 1)) (s2 dInS (sData .none) (sVar 1)))) (sData .none) (sTup (aCons (sData (.str "joint")) (aCons (s2 dIx (sVar 0) (sData (.int 1))) (aCons (sVar 1) aNil))))))
  cNil)) cNil)
  (cSeq (cIf (sOrB (asB (s2 dNe (s1 dLen (sVar 0)) (sData (.int 3)))) (sNotB (sTru (sCall c_is_name [.lk] (iCons .lk (s2 dIx (sVar 0) (sData (.int 1))) iNil))))) (cSeq (cRet false (sData .none))
  cNil) cNil)
  (cSeq (cIf (sAndB (asB (s2 dEq (s2 dIx (sVar 0) (sData (.int 0))) (sData (.str "hold")))) (asB (sAlt (s2 dIn (s2 dIx (sVar 0) (sData (.int 2))) (s2 dAdd (sData (.tuple [(.str "both"), (.str "x"), (.str "y")])) (sTup (aCons (sData (.str "free")) aNil)))) (s2 dInS (s2 dIx (sVar 0) (sData (.int 2))) (s2 dAdd (sData (.tuple [(.str "both"), (.str "x"), (.str "y")])) (sTup (aCons (sData (.str "free")) aNil))))))) (cSeq (cRet false (sTup (aCons (sData (.str "hold")) (aCons (s2 dIx (sVar 0) (sData (.int 1))) (aCons (sIte (asB (s2 dNe (s2 dIx (sVar 0) (sData (.int 2))) (sData (.str "free")))) (s2 dIx (sVar 0) (sData (.int 2))) (sData .none)) aNil)))))
  cNil) cNil)
  (cSeq (cIf (sAndB (asB (sAlt (s2 dIn (s2 dIx (sVar 0) (sData (.int 0))) (sTup (aCons (sData (.str "bar")) (aCons (sData (.str "out")) aNil)))) (s2 dInS (s2 dIx (sVar 0) (sData (.int 0))) (sTup (aCons (sData (.str "bar")) (aCons (sData (.str "out")) aNil)))))) (sAndB (sTru (sCall c_is_name [.lk] (iCons .lk (s2 dIx (sVar 0) (sData (.int 2))) iNil))) (asB (s2 dLt (s2 dIx (sVar 0) (sData (.int 1))) (s2 dIx (sVar 0) (sData (.int 2))))))) (cSeq (cRet false (sTup (aCons (s2 dIx (sVar 0) (sData (.int 0))) (aCons (s2 dIx (sVar 0) (sData (.int 1))) (aCons (s2 dIx (sVar 0) (sData (.int 2))) aNil)))))
  cNil) cNil)
  (cSeq (cRet false (sData .none))
  cNil)))))
def c_change_in : Cal := fnCal 1 false 2 s_change_in
abbrev i_change_in : FI := ⟨[.lk], false, c_change_in⟩
def T_change_in : Tc := ⟨["words", "point"], defScope st_change_in, fun _ => true, [("is_name", i_is_name), ("number_in", i_number_in)], CS, BL, GC, 1000000, false⟩
theorem sc_change_in : FnScope ["words", "point"] ["words"] (defScope st_change_in) := ⟨rfl, rfl, rfl, by decide +kernel, rfl, by decide +kernel, by decide +kernel⟩
theorem rd_change_in : lstS (trS 60 (T_change_in)) (defBody st_change_in) = some ([1], s_change_in) := by kernel_rfl
abbrev st_entry_of : Stmt := topS 11
def s_entry_of : SemS :=
  (cSeq (cAsg (sM1 isS dSplit (sVar 0) (sData (.str " "))) (gNm 1))
  (cSeq (cIf (asB (s2 dEq (s2 dIx (sVar 1) (sData (.int 0))) (sData (.str "plan")))) (cSeq (cAsg (sCall c_change_in [.lk] (iCons .lk (sSl (sVar 1) (oSome (sData (.int 1))) oNone) iNil)) (gNm 3))
  (cSeq (cRet false (sIte (asB (s2 dIs (sVar 3) (sData .none))) (sData .none) (sTup (aCons (sData (.str "plan")) (aCons (sVar 3) aNil)))))
  cNil)) cNil)
  (cSeq (cAsg (sLc (rSq (sSl (sVar 1) (oSome (sData (.int 1))) oNone)) (gNm 4) bYes (sCall c_whole_in [.lk] (iCons .lk (sVar 4) iNil)) [4]) (gNm 2))
  (cSeq (cIf (sOrB (asB (sAlt (s2 dIn (sData .none) (sVar 2)) (s2 dInS (sData .none) (sVar 2)))) (sOrB (sNotB (sTru (sVar 2))) (asB (s2 dLt (s1 dMin (sVar 2)) (sData (.int 1)))))) (cSeq (cRet false (sData .none))
  cNil) cNil)
  (cSeq (cIf (sAndB (asB (s2 dEq (s2 dIx (sVar 1) (sData (.int 0))) (sData (.str "drop")))) (asB (s2 dEq (s1 dLen (sVar 2)) (sData (.int 1))))) (cSeq (cRet false (sTup (aCons (sData (.str "drop")) (aCons (s2 dIx (sVar 2) (sData (.int 0))) aNil))))
  cNil) cNil)
  (cSeq (cIf (sAndB (asB (s2 dEq (s2 dIx (sVar 1) (sData (.int 0))) (sData (.str "do")))) (sTru (s1 dAll (sLc (rRg2 (aCons (sData (.int 1)) (aCons (s1 dLen (sVar 2)) aNil))) (gNm 5) bYes (s2 dLt (s2 dIx (sVar 2) (s2 dSub (sVar 5) (sData (.int 1)))) (s2 dIx (sVar 2) (sVar 5))) [5])))) (cSeq (cRet false (sTup (aCons (sData (.str "do")) (aCons (s1 dTuple (sVar 2)) aNil))))
  cNil) cNil)
  (cSeq (cRet false (sData .none))
  cNil)))))))
def c_entry_of : Cal := fnCal 1 false 6 s_entry_of
abbrev i_entry_of : FI := ⟨[.lk], false, c_entry_of⟩
def T_entry_of : Tc := ⟨["line", "words", "numbers", "change", "word", "at"], defScope st_entry_of, fun _ => true, [("change_in", i_change_in), ("whole_in", i_whole_in)], CS, BL, GC, 1000000, false⟩
theorem sc_entry_of : FnScope ["line", "words", "numbers", "change", "word", "at"] ["line"] (defScope st_entry_of) := ⟨rfl, rfl, rfl, by decide +kernel, rfl, by decide +kernel, by decide +kernel⟩
theorem rd_entry_of : lstS (trS 60 (T_entry_of)) (defBody st_entry_of) = some ([1, 3, 2], s_entry_of) := by kernel_rfl
abbrev st__law_mixed : Stmt := topS 13
def s__law_mixed : SemS :=
  (cSeq (cAsg (s2 dMod (sAlt (s1 dInt (s2 dAdd (s2 dAdd (s2 dMul (sVar 0) (sData (.int 48271))) (s2 dMul (sVar 1) (sData (.int 69621)))) (sData (.int 11)))) (s1 dIntS (s2 dAdd (s2 dAdd (s2 dMul (sVar 0) (sData (.int 48271))) (s2 dMul (sVar 1) (sData (.int 69621)))) (sData (.int 11))))) (sData (.int 618970019642690137449562111))) (gNm 2))
  (cSeq (cAsg (s2 dMod (sAlt (s1 dInt (s2 dAdd (s2 dAdd (s2 dMul (sVar 2) (sVar 2)) (s2 dMul (sData (.int 7)) (sVar 2))) (sVar 1))) (s1 dIntS (s2 dAdd (s2 dAdd (s2 dMul (sVar 2) (sVar 2)) (s2 dMul (sData (.int 7)) (sVar 2))) (sVar 1)))) (sData (.int 162259276829213363391578010288127))) (gNm 3))
  (cSeq (cAsg (s2 dMod (sAlt (s1 dInt (s2 dAdd (s2 dMul (sVar 3) (sVar 3)) (sVar 2))) (s1 dIntS (s2 dAdd (s2 dMul (sVar 3) (sVar 3)) (sVar 2)))) (sData (.int 618970019642690137449562111))) (gNm 4))
  (cSeq (cRet false (s2 dAdd (s2 dMul (sVar 3) (sData (.int 618970019642690137449562111))) (sVar 4)))
  cNil))))
def c__law_mixed : Cal := fnCal 2 false 5 s__law_mixed
abbrev i__law_mixed : FI := ⟨[.lk, .lk], false, c__law_mixed⟩
def T__law_mixed : Tc := ⟨["number", "place", "first", "second", "third"], defScope st__law_mixed, fun _ => true, [], CS, BL, GC, 1000000, false⟩
theorem sc__law_mixed : FnScope ["number", "place", "first", "second", "third"] ["number", "place"] (defScope st__law_mixed) := ⟨rfl, rfl, rfl, by decide +kernel, rfl, by decide +kernel, by decide +kernel⟩
theorem rd__law_mixed : lstS (trS 60 (T__law_mixed)) (defBody st__law_mixed) = some ([2, 3, 4], s__law_mixed) := by kernel_rfl
abbrev st__law_rest : Stmt := topS 14
def s__law_rest : SemS :=
  (cSeq (cAsg (sData (.int 0)) (gNm 3))
  (cSeq (cIf (asB (s2 dGt (s1 dLen (sVar 0)) (sData (.int 0)))) (cSeq (cAsg (sAlt (s1 dInt (s2 dIx (sVar 0) (s2 dMod (sAlt (s1 dInt (sVar 1)) (s1 dIntS (sVar 1))) (s1 dLen (sVar 0))))) (s1 dIntS (s2 dIx (sVar 0) (s2 dMod (sAlt (s1 dInt (sVar 1)) (s1 dIntS (sVar 1))) (s1 dLen (sVar 0)))))) (gNm 3))
  cNil) cNil)
  (cSeq (cIf (asB (s2 dLt (sVar 3) (sData (.int 0)))) (cSeq (cAsg (s2 dSub (sData (.int 1)) (s2 dMul (sData (.int 2)) (sVar 3))) (gNm 3))
  cNil) cNil)
  (cSeq (cIf (sAndB (asB (s2 dEq (sVar 2) (sData (.int 0)))) (sAndB (asB (s2 dLt (sVar 1) (s1 dLen (sVar 0)))) (asB (s2 dGe (sVar 3) (s2 dPow (sData (.int 10)) (sData (.int 18))))))) (cSeq (cRet false (s2 dSub (sVar 3) (s2 dPow (sData (.int 10)) (sData (.int 18)))))
  cNil) cNil)
  (cSeq (cRet false (sCall c__law_mixed [.lk, .lk] (iCons .lk (s2 dAdd (sVar 3) (s2 dMul (sVar 2) (sData (.int 1000003)))) (iCons .lk (sVar 1) iNil))))
  cNil)))))
def c__law_rest : Cal := fnCal 3 false 4 s__law_rest
abbrev i__law_rest : FI := ⟨[.lk, .lk, .lk], false, c__law_rest⟩
def T__law_rest : Tc := ⟨["script", "place", "fills", "number"], defScope st__law_rest, fun _ => true, [("_law_mixed", i__law_mixed)], CS, BL, GC, 1000000, false⟩
theorem sc__law_rest : FnScope ["script", "place", "fills", "number"] ["script", "place", "fills"] (defScope st__law_rest) := ⟨rfl, rfl, rfl, by decide +kernel, rfl, by decide +kernel, by decide +kernel⟩
theorem rd__law_rest : lstS (trS 60 (T__law_rest)) (defBody st__law_rest) = some ([3, 3, 3], s__law_rest) := by kernel_rfl
abbrev st__law_pool : Stmt := topS 15
def s__law_pool : SemS :=
  (cSeq (cRet false (sLst (aCons (sVar 0) (aCons (sData (.int 0)) (aCons (sCall c__law_rest [.lk, .lk, .lk] (iCons .lk (sVar 0) (iCons .lk (sData (.int 0)) (iCons .lk (sData (.int 0)) iNil)))) (aCons (sData (.int 0)) aNil))))))
  cNil)
def c__law_pool : Cal := fnCal 1 false 1 s__law_pool
abbrev i__law_pool : FI := ⟨[.lk], false, c__law_pool⟩
def T__law_pool : Tc := ⟨["script"], defScope st__law_pool, fun _ => true, [("_law_rest", i__law_rest)], CS, BL, GC, 1000000, false⟩
theorem sc__law_pool : FnScope ["script"] ["script"] (defScope st__law_pool) := ⟨rfl, rfl, rfl, by decide +kernel, rfl, by decide +kernel, by decide +kernel⟩
theorem rd__law_pool : lstS (trS 60 (T__law_pool)) (defBody st__law_pool) = some ([], s__law_pool) := by kernel_rfl
abbrev st__law_next : Stmt := topS 16
def s__law_next : SemS :=
  (cSeq (cAsg (s2 dAdd (s2 dIx (sVar 0) (sData (.int 1))) (sData (.int 1))) (gIx 0 (sData (.int 1))))
  (cSeq (cAsg (sCall c__law_rest [.lk, .lk, .lk] (iCons .lk (s2 dIx (sVar 0) (sData (.int 0))) (iCons .lk (s2 dIx (sVar 0) (sData (.int 1))) (iCons .lk (sData (.int 0)) iNil)))) (gIx 0 (sData (.int 2))))
  (cSeq (cAsg (sData (.int 0)) (gIx 0 (sData (.int 3))))
  cNil)))
def c__law_next : Cal := fnCal 1 true 1 s__law_next
abbrev i__law_next : FI := ⟨[], true, c__law_next⟩
def T__law_next : Tc := ⟨["pool"], defScope st__law_next, fun _ => true, [("_law_rest", i__law_rest)], CS, BL, GC, 1000000, true⟩
theorem sc__law_next : FnScope ["pool"] ["pool"] (defScope st__law_next) := ⟨rfl, rfl, rfl, by decide +kernel, rfl, by decide +kernel, by decide +kernel⟩
theorem rd__law_next : lstS (trS 60 (T__law_next)) (defBody st__law_next) = some ([], s__law_next) := by kernel_rfl
abbrev st__law_draw : Stmt := topS 17
def s__law_draw : SemS :=
  (cSeq (cIf (asB (s2 dLe (s2 dIx (sVar 0) (sData (.int 2))) (sData (.int 1)))) (cSeq (cAsg (s2 dAdd (s2 dIx (sVar 0) (sData (.int 3))) (sData (.int 1))) (gIx 0 (sData (.int 3))))
  (cSeq (cAsg (sCall c__law_rest [.lk, .lk, .lk] (iCons .lk (s2 dIx (sVar 0) (sData (.int 0))) (iCons .lk (s2 dIx (sVar 0) (sData (.int 1))) (iCons .lk (s2 dIx (sVar 0) (sData (.int 3))) iNil)))) (gIx 0 (sData (.int 2))))
  cNil)) cNil)
  (cSeq (cAsg (s2 dMod (sAlt (s1 dInt (s2 dIx (sVar 0) (sData (.int 2)))) (s1 dIntS (s2 dIx (sVar 0) (sData (.int 2))))) (sVar 1)) (gNm 2))
  (cSeq (cAsg (s2 dDiv (sAlt (s1 dInt (s2 dIx (sVar 0) (sData (.int 2)))) (s1 dIntS (s2 dIx (sVar 0) (sData (.int 2))))) (sVar 1)) (gIx 0 (sData (.int 2))))
  (cSeq (cRet true (sVar 2))
  cNil))))
def c__law_draw : Cal := fnCal 2 true 3 s__law_draw
abbrev i__law_draw : FI := ⟨[.lk], true, c__law_draw⟩
def T__law_draw : Tc := ⟨["pool", "limit", "value"], defScope st__law_draw, fun _ => true, [("_law_rest", i__law_rest)], CS, BL, GC, 1000000, true⟩
theorem sc__law_draw : FnScope ["pool", "limit", "value"] ["pool", "limit"] (defScope st__law_draw) := ⟨rfl, rfl, rfl, by decide +kernel, rfl, by decide +kernel, by decide +kernel⟩
theorem rd__law_draw : lstS (trS 60 (T__law_draw)) (defBody st__law_draw) = some ([2], s__law_draw) := by kernel_rfl
abbrev st__law_pick : Stmt := topS 18
def s__law_pick : SemS :=
  (cSeq (cRet true (s2 dIx (sVar 1) (sCallO c__law_draw [.lk] (iCons .lk (sVar 0) (iCons .lk (s1 dLen (sVar 1)) iNil)))))
  cNil)
def c__law_pick : Cal := fnCal 2 true 2 s__law_pick
abbrev i__law_pick : FI := ⟨[.lk], true, c__law_pick⟩
def T__law_pick : Tc := ⟨["pool", "options"], defScope st__law_pick, fun _ => true, [("_law_draw", i__law_draw)], CS, BL, GC, 1000000, true⟩
theorem sc__law_pick : FnScope ["pool", "options"] ["pool", "options"] (defScope st__law_pick) := ⟨rfl, rfl, rfl, by decide +kernel, rfl, by decide +kernel, by decide +kernel⟩
theorem rd__law_pick : lstS (trS 60 (T__law_pick)) (defBody st__law_pick) = some ([], s__law_pick) := by kernel_rfl
abbrev st__law_same : Stmt := topS 19
def s__law_same (c : Cal) : SemS :=
  (cSeq (cIf (sTru (s1 (dIsi "dict") (sVar 1))) (cSeq (cIf (sOrB (sNotB (sTru (s1 (dIsi "dict") (sVar 0)))) (asB (s2 dNe (s1 dLen (sVar 0)) (s1 dLen (sVar 1))))) (cSeq (cRet false (sData (.bool false)))
  cNil) cNil)
  (cSeq (cRet false (s1 dAll (sLc (rSq (sVar 1)) (gNm 2) bYes (sAndV (sAlt (s2 dIn (sVar 2) (sVar 0)) (s2 dInS (sVar 2) (sVar 0))) (sCall c [.lk, .lk] (iCons .lk (s2 dIx (sVar 0) (sVar 2)) (iCons .lk (s2 dIx (sVar 1) (sVar 2)) iNil)))) [2])))
  cNil)) cNil)
  (cSeq (cIf (sOrB (sTru (s1 (dIsi "list") (sVar 1))) (sTru (s1 (dIsi "tuple") (sVar 1)))) (cSeq (cIf (sOrB (asB (s2 dNe (s1 (dIsi "list") (sVar 1)) (s1 (dIsi "list") (sVar 0)))) (asB (s2 dNe (s1 (dIsi "tuple") (sVar 1)) (s1 (dIsi "tuple") (sVar 0))))) (cSeq (cRet false (sData (.bool false)))
  cNil) cNil)
  (cSeq (cRet false (sAndV (s2 dEq (s1 dLen (sVar 0)) (s1 dLen (sVar 1))) (s1 dAll (sLc (rRg1 (aCons (s1 dLen (sVar 1)) aNil)) (gNm 3) bYes (sCall c [.lk, .lk] (iCons .lk (s2 dIx (sVar 0) (sVar 3)) (iCons .lk (s2 dIx (sVar 1) (sVar 3)) iNil))) [3]))))
  cNil)) cNil)
  (cSeq (cIf (sTru (s1 (dIsi "str") (sVar 1))) (cSeq (cRet false (sAndV (s1 (dIsi "str") (sVar 0)) (s2 dEq (sVar 0) (sVar 1))))
  cNil) cNil)
  (cSeq (cIf (sOrB (asB (s2 dIs (sVar 1) (sData .none))) (sOrB (asB (s2 dIs (sVar 1) (sData (.bool true)))) (asB (s2 dIs (sVar 1) (sData (.bool false)))))) (cSeq (cRet false (sOrV (sAndV (s2 dIs (sVar 1) (sData .none)) (s2 dIs (sVar 0) (sData .none))) (sOrV (sAndV (s2 dIs (sVar 1) (sData (.bool true))) (s2 dIs (sVar 0) (sData (.bool true)))) (sAndV (s2 dIs (sVar 1) (sData (.bool false))) (s2 dIs (sVar 0) (sData (.bool false)))))))
  cNil) cNil)
  (cSeq (cRet false (sAndV (s1 (dIsi "int") (sVar 0)) (sAndV (sNotV (s1 (dIsi "bool") (sVar 0))) (s2 dEq (sVar 0) (sVar 1)))))
  cNil)))))
def c__law_same : Nat → Cal
  | 0 => fun _ => none
  | n + 1 => fnCal 2 false 4 (s__law_same (c__law_same n))
abbrev i__law_same : FI := ⟨[.lk, .lk], false, c__law_same 12⟩
def T__law_same (c : Cal) : Tc := ⟨["answer", "due", "key", "k"], defScope st__law_same, fun _ => true, [("_law_same", ⟨[.lk, .lk], false, c⟩)], CS, BL, GC, 1000000, false⟩
theorem sc__law_same : FnScope ["answer", "due", "key", "k"] ["answer", "due"] (defScope st__law_same) := ⟨rfl, rfl, rfl, by decide +kernel, rfl, by decide +kernel, by decide +kernel⟩
theorem rd__law_same (c : Cal) : lstS (trS 60 (T__law_same c)) (defBody st__law_same) = some ([], s__law_same c) := by kernel_rfl
abbrev st__law_copied : Stmt := topS 20
def s__law_copied (c : Cal) : SemS :=
  (cSeq (cIf (sTru (s1 (dIsi "dict") (sVar 0))) (cSeq cDead
  (cSeq (cFor (asL [2]) (rSq (sVar 0)) (gNm 2) (cSeq (cAsg (sCall c [.lk] (iCons .lk (s2 dIx (sVar 0) (sVar 2)) iNil)) (gIx 1 (sVar 2)))
  cNil))
  (cSeq (cRet false (sVar 1))
  cNil))) cNil)
  (cSeq (cIf (sTru (s1 (dIsi "list") (sVar 0))) (cSeq (cRet false (sLc (rSq (sVar 0)) (gNm 3) bYes (sCall c [.lk] (iCons .lk (sVar 3) iNil)) [3]))
  cNil) cNil)
  (cSeq (cIf (sTru (s1 (dIsi "tuple") (sVar 0))) (cSeq (cRet false (s1 dTuple (sLc (rSq (sVar 0)) (gNm 3) bYes (sCall c [.lk] (iCons .lk (sVar 3) iNil)) [3])))
  cNil) cNil)
  (cSeq (cRet false (sVar 0))
  cNil))))
def c__law_copied : Nat → Cal
  | 0 => fun _ => none
  | n + 1 => fnCal 1 false 4 (s__law_copied (c__law_copied n))
abbrev i__law_copied : FI := ⟨[.lk], false, c__law_copied 12⟩
def T__law_copied (c : Cal) : Tc := ⟨["value", "found", "key", "one"], defScope st__law_copied, fun _ => true, [("_law_copied", ⟨[.lk], false, c⟩)], CS, BL, GC, 1000000, false⟩
theorem sc__law_copied : FnScope ["value", "found", "key", "one"] ["value"] (defScope st__law_copied) := ⟨rfl, rfl, rfl, by decide +kernel, rfl, by decide +kernel, by decide +kernel⟩
theorem rd__law_copied (c : Cal) : lstS (trS 60 (T__law_copied c)) (defBody st__law_copied) = some ([2], s__law_copied c) := by kernel_rfl
abbrev st__law_gcd : Stmt := topS 21
def s__law_gcd : SemS :=
  (cSeq (cFor (asL [2, 0, 1]) (rRg1 (aCons (sData (.int 400000)) aNil)) (gNm 2) (cSeq (cIf (asB (s2 dEq (sVar 1) (sData (.int 0)))) (cSeq cBk
  cNil) cNil)
  (cSeq (cPar 0 1 (aCons (sVar 1) (aCons (s2 dMod (sAlt (s1 dInt (sVar 0)) (s1 dIntS (sVar 0))) (sVar 1)) aNil)))
  cNil)))
  (cSeq (cRet false (sVar 0))
  cNil))
def c__law_gcd : Cal := fnCal 2 false 3 s__law_gcd
abbrev i__law_gcd : FI := ⟨[.lk, .lk], false, c__law_gcd⟩
def T__law_gcd : Tc := ⟨["one", "other", "k"], defScope st__law_gcd, fun _ => true, [], CS, BL, GC, 1000000, false⟩
theorem sc__law_gcd : FnScope ["one", "other", "k"] ["one", "other"] (defScope st__law_gcd) := ⟨rfl, rfl, rfl, by decide +kernel, rfl, by decide +kernel, by decide +kernel⟩
theorem rd__law_gcd : lstS (trS 60 (T__law_gcd)) (defBody st__law_gcd) = some ([2, 0, 1], s__law_gcd) := by kernel_rfl
abbrev st__law_ratio : Stmt := topS 22
def s__law_ratio : SemS :=
  (cSeq (cIf (asB (s2 dLt (sVar 1) (sData (.int 0)))) (cSeq (cPar 0 1 (aCons (s1 dNeg (sVar 0)) (aCons (s1 dNeg (sVar 1)) aNil)))
  cNil) cNil)
  (cSeq (cAsg (sCall c__law_gcd [.lk, .lk] (iCons .lk (s1 dAbs (sVar 0)) (iCons .lk (sVar 1) iNil))) (gNm 2))
  (cSeq (cRet false (sTup (aCons (s2 dDiv (sVar 0) (sVar 2)) (aCons (s2 dDiv (sVar 1) (sVar 2)) aNil))))
  cNil)))
def c__law_ratio : Cal := fnCal 2 false 3 s__law_ratio
abbrev i__law_ratio : FI := ⟨[.lk, .lk], false, c__law_ratio⟩
def T__law_ratio : Tc := ⟨["p", "q", "common"], defScope st__law_ratio, fun _ => true, [("_law_gcd", i__law_gcd)], CS, BL, GC, 1000000, false⟩
theorem sc__law_ratio : FnScope ["p", "q", "common"] ["p", "q"] (defScope st__law_ratio) := ⟨rfl, rfl, rfl, by decide +kernel, rfl, by decide +kernel, by decide +kernel⟩
theorem rd__law_ratio : lstS (trS 60 (T__law_ratio)) (defBody st__law_ratio) = some ([0, 1, 2], s__law_ratio) := by kernel_rfl
abbrev st__law_name : Stmt := topS 23
def s__law_name : SemS :=
  (cSeq (cAsg (sData (.str "abcdefghijklmnopqrstuvwxyz")) (gNm 2))
  (cSeq (cAsg (s2 dIx (sVar 2) (sCallO c__law_draw [.lk] (iCons .lk (sVar 0) (iCons .lk (sData (.int 12)) iNil)))) (gNm 3))
  (cSeq (cFor (asL [4, 3]) (rRg1 (aCons (sCallO c__law_pick [.lk] (iCons .lk (sVar 0) (iCons .lk (sLst (aCons (sData (.int 0)) (aCons (sData (.int 0)) (aCons (sData (.int 1)) (aCons (sData (.int 3)) (aCons (sData (.int 9)) aNil)))))) iNil))) aNil)) (gNm 4) (cSeq (cAsg (s2 dAdd (sVar 3) (s2 dIx (s2 dAdd (sVar 2) (sData (.str "0123456789"))) (sCallO c__law_draw [.lk] (iCons .lk (sVar 0) (iCons .lk (sData (.int 36)) iNil))))) (gNm 3))
  cNil))
  (cSeq (cRet true (s2 dAdd (sSl (sVar 3) oNone (oSome (sData (.int 10)))) (sSl (s1 dStr (s2 dAdd (sData (.int 100)) (sVar 1))) (oSome (sData (.int 1))) oNone)))
  cNil))))
def c__law_name : Cal := fnCal 2 true 5 s__law_name
abbrev i__law_name : FI := ⟨[.lk], true, c__law_name⟩
def T__law_name : Tc := ⟨["pool", "serial", "letters", "name", "k"], defScope st__law_name, fun _ => true, [("_law_draw", i__law_draw), ("_law_pick", i__law_pick)], CS, BL, GC, 1000000, true⟩
theorem sc__law_name : FnScope ["pool", "serial", "letters", "name", "k"] ["pool", "serial"] (defScope st__law_name) := ⟨rfl, rfl, rfl, by decide +kernel, rfl, by decide +kernel, by decide +kernel⟩
theorem rd__law_name : lstS (trS 60 (T__law_name)) (defBody st__law_name) = some ([2, 3, 4, 3], s__law_name) := by kernel_rfl
abbrev st__law_change_drawn : Stmt := topS 24
def s__law_change_drawn : SemS :=
  (cSeq (cAsg (sCallO c__law_draw [.lk] (iCons .lk (sVar 0) (iCons .lk (sData (.int 8)) iNil))) (gNm 2))
  (cSeq (cIf (asB (s2 dLt (sVar 2) (sData (.int 3)))) (cSeq (cRet true (sTup (aCons (sData (.str "joint")) (aCons (sCallO c__law_pick [.lk] (iCons .lk (sVar 0) (iCons .lk (sVar 1) iNil))) (aCons (sTup (aCons (sCall c__law_ratio [.lk, .lk] (iCons .lk (s2 dSub (sCallO c__law_draw [.lk] (iCons .lk (sVar 0) (iCons .lk (sData (.int 13)) iNil))) (sData (.int 6))) (iCons .lk (s2 dAdd (sData (.int 1)) (sCallO c__law_draw [.lk] (iCons .lk (sVar 0) (iCons .lk (sData (.int 2)) iNil)))) iNil))) (aCons (sTup (aCons (sCallO c__law_draw [.lk] (iCons .lk (sVar 0) (iCons .lk (sData (.int 9)) iNil))) (aCons (sData (.int 1)) aNil))) aNil))) aNil)))))
  cNil) cNil)
  (cSeq (cIf (asB (s2 dLt (sVar 2) (sData (.int 5)))) (cSeq (cRet true (sTup (aCons (sData (.str "hold")) (aCons (sCallO c__law_pick [.lk] (iCons .lk (sVar 0) (iCons .lk (sVar 1) iNil))) (aCons (sCallO c__law_pick [.lk] (iCons .lk (sVar 0) (iCons .lk (sLst (aCons (sData (.str "both")) (aCons (sData (.str "both")) (aCons (sData (.str "x")) (aCons (sData (.str "y")) (aCons (sData .none) aNil)))))) iNil))) aNil)))))
  cNil) cNil)
  (cSeq (cAsg (sCallO c__law_pick [.lk] (iCons .lk (sVar 0) (iCons .lk (sVar 1) iNil))) (gNm 3))
  (cSeq (cAsg (sCallO c__law_pick [.lk] (iCons .lk (sVar 0) (iCons .lk (sLc (rSq (sVar 1)) (gNm 5) (asB (s2 dNe (sVar 5) (sVar 3))) (sVar 5) [5]) iNil))) (gNm 4))
  (cSeq (cRet true (sTup (aCons (sCallO c__law_pick [.lk] (iCons .lk (sVar 0) (iCons .lk (sLst (aCons (sData (.str "bar")) (aCons (sData (.str "bar")) (aCons (sData (.str "out")) aNil)))) iNil))) (aCons (sAlt (s2 dMin2 (sVar 3) (sVar 4)) (s2 dMin2S (sVar 3) (sVar 4))) (aCons (sAlt (s2 dMax2 (sVar 3) (sVar 4)) (s2 dMax2S (sVar 3) (sVar 4))) aNil)))))
  cNil))))))
def c__law_change_drawn : Cal := fnCal 2 true 6 s__law_change_drawn
abbrev i__law_change_drawn : FI := ⟨[.lk], true, c__law_change_drawn⟩
def T__law_change_drawn : Tc := ⟨["pool", "names", "way", "one", "other", "name"], defScope st__law_change_drawn, fun _ => true, [("_law_draw", i__law_draw), ("_law_pick", i__law_pick), ("_law_ratio", i__law_ratio)], CS, BL, GC, 1000000, true⟩
theorem sc__law_change_drawn : FnScope ["pool", "names", "way", "one", "other", "name"] ["pool", "names"] (defScope st__law_change_drawn) := ⟨rfl, rfl, rfl, by decide +kernel, rfl, by decide +kernel, by decide +kernel⟩
theorem rd__law_change_drawn : lstS (trS 60 (T__law_change_drawn)) (defBody st__law_change_drawn) = some ([2, 3, 4], s__law_change_drawn) := by kernel_rfl
abbrev st__law_word : Stmt := topS 25
def s__law_word : SemS :=
  (cSeq (cRet false (sIte (asB (s2 dEq (s2 dIx (sVar 0) (sData (.int 1))) (sData (.int 1)))) (s1 dStr (s2 dIx (sVar 0) (sData (.int 0)))) (s2 dAdd (s2 dAdd (s1 dStr (s2 dIx (sVar 0) (sData (.int 0)))) (sData (.str "/"))) (s1 dStr (s2 dIx (sVar 0) (sData (.int 1)))))))
  cNil)
def c__law_word : Cal := fnCal 1 false 1 s__law_word
abbrev i__law_word : FI := ⟨[.lk], false, c__law_word⟩
def T__law_word : Tc := ⟨["number"], defScope st__law_word, fun _ => true, [], CS, BL, GC, 1000000, false⟩
theorem sc__law_word : FnScope ["number"] ["number"] (defScope st__law_word) := ⟨rfl, rfl, rfl, by decide +kernel, rfl, by decide +kernel, by decide +kernel⟩
theorem rd__law_word : lstS (trS 60 (T__law_word)) (defBody st__law_word) = some ([], s__law_word) := by kernel_rfl
abbrev st__law_line : Stmt := topS 26
def s__law_line : SemS :=
  (cSeq (cIf (asB (s2 dEq (s2 dIx (sVar 0) (sData (.int 0))) (sData (.str "do")))) (cSeq (cRet false (s2 dAdd (sData (.str "do ")) (sM1 isS dJoin (sData (.str " ")) (sLc (rSq (s2 dIx (sVar 0) (sData (.int 1)))) (gNm 2) bYes (s1 dStr (sVar 2)) [2]))))
  cNil) cNil)
  (cSeq (cIf (asB (s2 dEq (s2 dIx (sVar 0) (sData (.int 0))) (sData (.str "drop")))) (cSeq (cRet false (s2 dAdd (sData (.str "drop ")) (s1 dStr (s2 dIx (sVar 0) (sData (.int 1))))))
  cNil) cNil)
  (cSeq (cAsg (s2 dIx (sVar 0) (sData (.int 1))) (gNm 1))
  (cSeq (cIf (asB (s2 dEq (s2 dIx (sVar 1) (sData (.int 0))) (sData (.str "joint")))) (cSeq (cRet false (s2 dAdd (s2 dAdd (s2 dAdd (s2 dAdd (s2 dAdd (sData (.str "plan joint ")) (s2 dIx (sVar 1) (sData (.int 1)))) (sData (.str " "))) (sCall c__law_word [.lk] (iCons .lk (s2 dIx (s2 dIx (sVar 1) (sData (.int 2))) (sData (.int 0))) iNil))) (sData (.str " "))) (sCall c__law_word [.lk] (iCons .lk (s2 dIx (s2 dIx (sVar 1) (sData (.int 2))) (sData (.int 1))) iNil))))
  cNil) cNil)
  (cSeq (cRet false (s2 dAdd (s2 dAdd (s2 dAdd (s2 dAdd (s2 dAdd (sData (.str "plan ")) (s2 dIx (sVar 1) (sData (.int 0)))) (sData (.str " "))) (s2 dIx (sVar 1) (sData (.int 1)))) (sData (.str " "))) (sIte (asB (s2 dIs (s2 dIx (sVar 1) (sData (.int 2))) (sData .none))) (sData (.str "free")) (s2 dIx (sVar 1) (sData (.int 2))))))
  cNil)))))
def c__law_line : Cal := fnCal 1 false 3 s__law_line
abbrev i__law_line : FI := ⟨[.lk], false, c__law_line⟩
def T__law_line : Tc := ⟨["entry", "change", "number"], defScope st__law_line, fun _ => true, [("_law_word", i__law_word)], CS, BL, GC, 1000000, false⟩
theorem sc__law_line : FnScope ["entry", "change", "number"] ["entry"] (defScope st__law_line) := ⟨rfl, rfl, rfl, by decide +kernel, rfl, by decide +kernel, by decide +kernel⟩
theorem rd__law_line : lstS (trS 60 (T__law_line)) (defBody st__law_line) = some ([1], s__law_line) := by kernel_rfl
abbrev st__law_drawn : Stmt := topS 27
def s__law_drawn : SemS :=
  (cSeq (cAsg (sCallO c__law_draw [.lk] (iCons .lk (sVar 0) (iCons .lk (sData (.int 5)) iNil))) (gNm 2))
  (cSeq (cIf (asB (s2 dEq (sVar 2) (sData (.int 0)))) (cSeq (cRet true (sTup (aCons (sData (.str "drop")) (aCons (s2 dAdd (sData (.int 1)) (sCallO c__law_draw [.lk] (iCons .lk (sVar 0) (iCons .lk (sData (.int 300)) iNil)))) aNil))))
  cNil) cNil)
  (cSeq (cIf (asB (s2 dEq (sVar 2) (sData (.int 1)))) (cSeq (cAsg (s2 dAdd (sData (.int 1)) (sCallO c__law_draw [.lk] (iCons .lk (sVar 0) (iCons .lk (sData (.int 9)) iNil)))) (gNm 3))
  (cSeq (cRet true (sTup (aCons (sData (.str "do")) (aCons (s1 dTuple (sLc (rRg1 (aCons (s2 dAdd (sData (.int 1)) (sCallO c__law_draw [.lk] (iCons .lk (sVar 0) (iCons .lk (sData (.int 4)) iNil)))) aNil)) (gNm 5) bYes (s2 dAdd (sVar 3) (s2 dMul (s2 dMul (sVar 5) (s2 dAdd (sData (.int 1)) (sCallO c__law_draw [.lk] (iCons .lk (sVar 0) (iCons .lk (sData (.int 2)) iNil))))) (sData (.int 3)))) [5])) aNil))))
  cNil)) cNil)
  (cSeq (cIf (asB (s2 dEq (sVar 2) (sData (.int 2)))) (cSeq (cAsg (sTup (aCons (sCall c__law_ratio [.lk, .lk] (iCons .lk (s2 dSub (sCallO c__law_draw [.lk] (iCons .lk (sVar 0) (iCons .lk (sData (.int 2001)) iNil))) (sData (.int 1000))) (iCons .lk (s2 dAdd (sData (.int 1)) (sCallO c__law_draw [.lk] (iCons .lk (sVar 0) (iCons .lk (sData (.int 30)) iNil)))) iNil))) (aCons (sCall c__law_ratio [.lk, .lk] (iCons .lk (s2 dSub (sCallO c__law_draw [.lk] (iCons .lk (sVar 0) (iCons .lk (sData (.int 21)) iNil))) (sData (.int 10))) (iCons .lk (s2 dAdd (sData (.int 1)) (sCallO c__law_draw [.lk] (iCons .lk (sVar 0) (iCons .lk (sData (.int 3)) iNil)))) iNil))) aNil))) (gNm 4))
  (cSeq (cRet true (sTup (aCons (sData (.str "plan")) (aCons (sTup (aCons (sData (.str "joint")) (aCons (sCallO c__law_pick [.lk] (iCons .lk (sVar 0) (iCons .lk (sVar 1) iNil))) (aCons (sVar 4) aNil)))) aNil))))
  cNil)) cNil)
  (cSeq (cRet true (sTup (aCons (sData (.str "plan")) (aCons (sCallO c__law_change_drawn [.lk] (iCons .lk (sVar 0) (iCons .lk (sVar 1) iNil))) aNil))))
  cNil)))))
def c__law_drawn : Cal := fnCal 2 true 6 s__law_drawn
abbrev i__law_drawn : FI := ⟨[.lk], true, c__law_drawn⟩
def T__law_drawn : Tc := ⟨["pool", "names", "way", "first", "point", "k"], defScope st__law_drawn, fun _ => true, [("_law_draw", i__law_draw), ("_law_change_drawn", i__law_change_drawn), ("_law_ratio", i__law_ratio), ("_law_pick", i__law_pick)], CS, BL, GC, 1000000, true⟩
theorem sc__law_drawn : FnScope ["pool", "names", "way", "first", "point", "k"] ["pool", "names"] (defScope st__law_drawn) := ⟨rfl, rfl, rfl, by decide +kernel, rfl, by decide +kernel, by decide +kernel⟩
theorem rd__law_drawn : lstS (trS 60 (T__law_drawn)) (defBody st__law_drawn) = some ([2, 3, 4], s__law_drawn) := by kernel_rfl
abbrev st__law_strange : Stmt := topS 28
def s__law_strange : SemS :=
  (cSeq (cAsg (sLst (aCons (sData (.str "")) (aCons (sData (.str "plan")) (aCons (sData (.str "plan joint")) (aCons (sData (.str "plan joint a")) (aCons (sData (.str "plan joint a 1")) (aCons (sData (.str "plan joint a 1 2 3")) (aCons (sData (.str "plan joint a 2/4 1")) (aCons (sData (.str "plan joint a 1/1 1")) (aCons (sData (.str "plan joint a -0 1")) aNil)))))))))) (gNm 0))
  (cSeq (cAsg (s2 dAdd (sVar 0) (sLst (aCons (sData (.str "plan joint a 01 1")) (aCons (sData (.str "plan joint a 1/-2 1")) (aCons (sData (.str "plan joint a 1//2 1")) (aCons (sData (.str "plan joint 9a 1 1")) (aCons (sData (.str "plan hold a")) (aCons (sData (.str "plan hold a none")) (aCons (sData (.str "plan hold a both both")) aNil))))))))) (gNm 0))
  (cSeq (cAsg (s2 dAdd (sVar 0) (sLst (aCons (sData (.str "plan bar a")) (aCons (sData (.str "plan bar b a")) (aCons (sData (.str "plan bar a a")) (aCons (sData (.str "plan bars a b")) (aCons (sData (.str "do")) (aCons (sData (.str "do 0")) (aCons (sData (.str "do 2 1")) (aCons (sData (.str "do 1 1")) (aCons (sData (.str "do x")) (aCons (sData (.str "do -1")) (aCons (sData (.str "drop")) (aCons (sData (.str "drop 0")) (aCons (sData (.str "drop 1 2")) (aCons (sData (.str "drops 1")) aNil)))))))))))))))) (gNm 0))
  (cSeq (cRet false (s2 dAdd (sVar 0) (sLst (aCons (sData (.str " plan hold a x")) (aCons (sData (.str "plan  hold a x")) (aCons (sData (.str "plan hold a x ")) (aCons (sData (.str "plan joint a 0/2 1")) (aCons (sData (.str "plan joint A 1 1")) (aCons (sData (.str "plan joint a 1 /2")) aNil)))))))))
  cNil))))
def c__law_strange : Cal := fnCal 0 false 1 s__law_strange
abbrev i__law_strange : FI := ⟨[], false, c__law_strange⟩
def T__law_strange : Tc := ⟨["found"], defScope st__law_strange, fun _ => true, [], CS, BL, GC, 1000000, false⟩
theorem sc__law_strange : FnScope ["found"] [] (defScope st__law_strange) := ⟨rfl, rfl, rfl, by decide +kernel, rfl, by decide +kernel, by decide +kernel⟩
theorem rd__law_strange : lstS (trS 60 (T__law_strange)) (defBody st__law_strange) = some ([0, 0, 0], s__law_strange) := by kernel_rfl
abbrev st_law : Stmt := topS 29
def s_law : SemS :=
  (cSeq (cAsg (sCall c__law_pool [.lk] (iCons .lk (sVar 0) iNil)) (gNm 1))
  (cSeq (cAsg (sAlt (s1 dSorted (sLc (rRg1 (aCons (sData (.int 4)) aNil)) (gNm 3) bYes (sCallO c__law_name [.lk] (iCons .lk (sVar 1) (iCons .lk (sVar 3) iNil))) [3])) (s1 dSortedS (sLc (rRg1 (aCons (sData (.int 4)) aNil)) (gNm 3) bYes (sCallO c__law_name [.lk] (iCons .lk (sVar 1) (iCons .lk (sVar 3) iNil))) [3]))) (gNm 2))
  (cSeq (cFor (asL [3, 4, 4, 5, 6, 7, 8, 9, 10, 11]) (rRg1 (aCons (sData (.int 6)) aNil)) (gNm 3) (cSeq (cExp (sCallO c__law_next [] (iCons .lk (sVar 1) iNil)))
  (cSeq (cAsg (sCallO c__law_drawn [.lk] (iCons .lk (sVar 1) (iCons .lk (sVar 2) iNil))) (gNm 4))
  (cSeq (cIf (sAndB (asB (s2 dEq (s2 dIx (sVar 4) (sData (.int 0))) (sData (.str "do")))) (sNotB (sTru (s1 dAll (sLc (rRg2 (aCons (sData (.int 1)) (aCons (s1 dLen (s2 dIx (sVar 4) (sData (.int 1)))) aNil))) (gNm 7) bYes (s2 dLt (s2 dIx (s2 dIx (sVar 4) (sData (.int 1))) (s2 dSub (sVar 7) (sData (.int 1)))) (s2 dIx (s2 dIx (sVar 4) (sData (.int 1))) (sVar 7))) [7]))))) (cSeq (cAsg (sTup (aCons (sData (.str "do")) (aCons (sSl (s2 dIx (sVar 4) (sData (.int 1))) oNone (oSome (sData (.int 1)))) aNil))) (gNm 4))
  cNil) cNil)
  (cSeq (cAsg (sCall c__law_line [.lk] (iCons .lk (sVar 4) iNil)) (gNm 5))
  (cSeq (cIf (sNotB (sTru (sCall (c__law_same 12) [.lk, .lk] (iCons .lk (sLst (aCons (sCall c_line_of [.lk] (iCons .lk (sCall (c__law_copied 12) [.lk] (iCons .lk (sVar 4) iNil)) iNil)) (aCons (sCall c_entry_of [.lk] (iCons .lk (sVar 5) iNil)) aNil))) (iCons .lk (sLst (aCons (sVar 5) (aCons (sVar 4) aNil))) iNil))))) (cSeq (cRet false (sData (.bool false)))
  cNil) cNil)
  (cSeq (cAsg (sM1 isS dSplit (sVar 5) (sData (.str " "))) (gNm 6))
  (cSeq (cAsg (sCallO c__law_draw [.lk] (iCons .lk (sVar 1) (iCons .lk (s1 dLen (sVar 6)) iNil))) (gNm 7))
  (cSeq (cAsg (sCallO c__law_pick [.lk] (iCons .lk (sVar 1) (iCons .lk (sLst (aCons (sData (.str "")) (aCons (sData (.str "7")) (aCons (sData (.str "-3")) (aCons (sData (.str "1/2")) (aCons (sData (.str "2/6")) (aCons (sData (.str "free")) (aCons (sData (.str "both")) (aCons (sData (.str "bar")) (aCons (sData (.str "plan")) (aCons (sData (.str "zz")) (aCons (s2 dAdd (s2 dIx (sVar 6) (sVar 7)) (sData (.str "x"))) aNil)))))))))))) iNil))) (gNm 8))
  (cSeq (cAsg (sLst (aCons (sM1 isS dJoin (sData (.str " ")) (s2 dAdd (s2 dAdd (sSl (sVar 6) oNone (oSome (sVar 7))) (sLst (aCons (sVar 8) aNil))) (sSl (sVar 6) (oSome (s2 dAdd (sVar 7) (sData (.int 1)))) oNone))) (aCons (sM1 isS dJoin (sData (.str " ")) (s2 dAdd (sSl (sVar 6) oNone (oSome (sVar 7))) (sSl (sVar 6) (oSome (s2 dAdd (sVar 7) (sData (.int 1)))) oNone))) (aCons (sM1 isS dJoin (sData (.str " ")) (s2 dAdd (s2 dAdd (sSl (sVar 6) oNone (oSome (sVar 7))) (sLst (aCons (sVar 8) aNil))) (sSl (sVar 6) (oSome (sVar 7)) oNone))) aNil)))) (gNm 9))
  (cSeq (cFor (asL [10, 11]) (rSq (sVar 9)) (gNm 10) (cSeq (cAsg (sCall c_entry_of [.lk] (iCons .lk (sVar 10) iNil)) (gNm 11))
  (cSeq (cIf (sAndB (asB (s2 dIsNot (sVar 11) (sData .none))) (asB (s2 dNe (sCall c__law_line [.lk] (iCons .lk (sVar 11) iNil)) (sVar 10)))) (cSeq (cRet false (sData (.bool false)))
  cNil) cNil)
  cNil)))
  cNil)))))))))))
  (cSeq (cRet false (sNotV (s1 dAny (sLc (rSq (sCall c__law_strange [] iNil)) (gNm 10) bYes (s2 dIsNot (sCall c_entry_of [.lk] (iCons .lk (sVar 10) iNil)) (sData .none)) [10]))))
  cNil))))
def c_law : Cal := fnCal 1 false 12 s_law
abbrev i_law : FI := ⟨[.lk], false, c_law⟩
def T_law : Tc := ⟨["script", "pool", "names", "k", "entry", "line", "words", "at", "bent", "strings", "string", "told"], defScope st_law, fun _ => true, [("_law_pool", i__law_pool), ("_law_next", i__law_next), ("_law_drawn", i__law_drawn), ("_law_line", i__law_line), ("_law_draw", i__law_draw), ("_law_pick", i__law_pick), ("_law_name", i__law_name), ("_law_same", i__law_same), ("entry_of", i_entry_of), ("line_of", i_line_of), ("_law_strange", i__law_strange), ("_law_copied", i__law_copied)], CS, BL, GC, 1000000, false⟩
theorem sc_law : FnScope ["script", "pool", "names", "k", "entry", "line", "words", "at", "bent", "strings", "string", "told"] ["script"] (defScope st_law) := ⟨rfl, rfl, rfl, by decide +kernel, rfl, by decide +kernel, by decide +kernel⟩
theorem rd_law : lstS (trS 60 (T_law)) (defBody st_law) = some ([1, 2, 3, 4, 4, 5, 6, 7, 8, 9, 10, 11], s_law) := by kernel_rfl
structure Mod (K : PySem.W.Frag) (mg : Str → Option Value) : Prop where
  number_word : Have K mg "number_word" st_number_word ["number"]
  line_of : Have K mg "line_of" st_line_of ["entry"]
  is_name : Have K mg "is_name" st_is_name ["word"]
  whole_in : Have K mg "whole_in" st_whole_in ["word"]
  shares : Have K mg "shares" st_shares ["one", "other"]
  number_in : Have K mg "number_in" st_number_in ["word"]
  change_in : Have K mg "change_in" st_change_in ["words"]
  entry_of : Have K mg "entry_of" st_entry_of ["line"]
  _law_mixed : Have K mg "_law_mixed" st__law_mixed ["number", "place"]
  _law_rest : Have K mg "_law_rest" st__law_rest ["script", "place", "fills"]
  _law_pool : Have K mg "_law_pool" st__law_pool ["script"]
  _law_next : Have K mg "_law_next" st__law_next ["pool"]
  _law_draw : Have K mg "_law_draw" st__law_draw ["pool", "limit"]
  _law_pick : Have K mg "_law_pick" st__law_pick ["pool", "options"]
  _law_same : Have K mg "_law_same" st__law_same ["answer", "due"]
  _law_copied : Have K mg "_law_copied" st__law_copied ["value"]
  _law_gcd : Have K mg "_law_gcd" st__law_gcd ["one", "other"]
  _law_ratio : Have K mg "_law_ratio" st__law_ratio ["p", "q"]
  _law_name : Have K mg "_law_name" st__law_name ["pool", "serial"]
  _law_change_drawn : Have K mg "_law_change_drawn" st__law_change_drawn ["pool", "names"]
  _law_word : Have K mg "_law_word" st__law_word ["number"]
  _law_line : Have K mg "_law_line" st__law_line ["entry"]
  _law_drawn : Have K mg "_law_drawn" st__law_drawn ["pool", "names"]
  _law_strange : Have K mg "_law_strange" st__law_strange []
  law : Have K mg "law" st_law ["script"]
  names : Names K mg CS BL GC
section
variable {P : Program} {w : World} {K : PySem.W.Frag} {mg : Str → Option Value} {base : Heap}
theorem g_number_word (M : Mod K mg) : Good P w K mg base 1 "number_word" i_number_word := def_good (k := 0) M.number_word sc_number_word M.names rfl rfl rfl rfl rd_number_word (fun h => by cases h) Goods.nil rfl
theorem g_line_of (M : Mod K mg) : Good P w K mg base 2 "line_of" i_line_of := def_good (k := 1) M.line_of sc_line_of M.names rfl rfl rfl rfl rd_line_of (fun h => by cases h) (Goods.cons (g_number_word M) (by decide) Goods.nil) rfl
theorem g_is_name (M : Mod K mg) : Good P w K mg base 1 "is_name" i_is_name := def_good (k := 0) M.is_name sc_is_name M.names rfl rfl rfl rfl rd_is_name (fun h => by cases h) Goods.nil rfl
theorem g_whole_in (M : Mod K mg) : Good P w K mg base 1 "whole_in" i_whole_in := def_good (k := 0) M.whole_in sc_whole_in M.names rfl rfl rfl rfl rd_whole_in (fun h => by cases h) Goods.nil rfl
theorem g_shares (M : Mod K mg) : Good P w K mg base 1 "shares" i_shares := def_good (k := 0) M.shares sc_shares M.names rfl rfl rfl rfl rd_shares (fun h => by cases h) Goods.nil rfl
theorem g_number_in (M : Mod K mg) : Good P w K mg base 2 "number_in" i_number_in := def_good (k := 1) M.number_in sc_number_in M.names rfl rfl rfl rfl rd_number_in (fun h => by cases h) (Goods.cons (g_whole_in M) (by decide) (Goods.cons (g_shares M) (by decide) Goods.nil)) rfl
theorem g_change_in (M : Mod K mg) : Good P w K mg base 3 "change_in" i_change_in := def_good (k := 2) M.change_in sc_change_in M.names rfl rfl rfl rfl rd_change_in (fun h => by cases h) (Goods.cons (g_is_name M) (by decide) (Goods.cons (g_number_in M) (by decide) Goods.nil)) rfl
theorem g_entry_of (M : Mod K mg) : Good P w K mg base 4 "entry_of" i_entry_of := def_good (k := 3) M.entry_of sc_entry_of M.names rfl rfl rfl rfl rd_entry_of (fun h => by cases h) (Goods.cons (g_change_in M) (by decide) (Goods.cons (g_whole_in M) (by decide) Goods.nil)) rfl
theorem g__law_mixed (M : Mod K mg) : Good P w K mg base 1 "_law_mixed" i__law_mixed := def_good (k := 0) M._law_mixed sc__law_mixed M.names rfl rfl rfl rfl rd__law_mixed (fun h => by cases h) Goods.nil rfl
theorem g__law_rest (M : Mod K mg) : Good P w K mg base 2 "_law_rest" i__law_rest := def_good (k := 1) M._law_rest sc__law_rest M.names rfl rfl rfl rfl rd__law_rest (fun h => by cases h) (Goods.cons (g__law_mixed M) (by decide) Goods.nil) rfl
theorem g__law_pool (M : Mod K mg) : Good P w K mg base 3 "_law_pool" i__law_pool := def_good (k := 2) M._law_pool sc__law_pool M.names rfl rfl rfl rfl rd__law_pool (fun h => by cases h) (Goods.cons (g__law_rest M) (by decide) Goods.nil) rfl
theorem g__law_next (M : Mod K mg) : Good P w K mg base 3 "_law_next" i__law_next := def_good (k := 2) M._law_next sc__law_next M.names rfl rfl rfl rfl rd__law_next (fun _ => ⟨rfl, by decide⟩) (Goods.cons (g__law_rest M) (by decide) Goods.nil) rfl
theorem g__law_draw (M : Mod K mg) : Good P w K mg base 3 "_law_draw" i__law_draw := def_good (k := 2) M._law_draw sc__law_draw M.names rfl rfl rfl rfl rd__law_draw (fun _ => ⟨rfl, by decide⟩) (Goods.cons (g__law_rest M) (by decide) Goods.nil) rfl
theorem g__law_pick (M : Mod K mg) : Good P w K mg base 4 "_law_pick" i__law_pick := def_good (k := 3) M._law_pick sc__law_pick M.names rfl rfl rfl rfl rd__law_pick (fun _ => ⟨rfl, by decide⟩) (Goods.cons (g__law_draw M) (by decide) Goods.nil) rfl
theorem gr__law_same (M : Mod K mg) : ∀ n, Good P w K mg base (0 + n) "_law_same" ⟨[.lk, .lk], false, c__law_same n⟩
  | 0 => good_none M._law_same
  | n + 1 => def_good (k := 0 + n) M._law_same sc__law_same M.names rfl rfl rfl rfl (rd__law_same (c__law_same n)) (fun h => by cases h) (Goods.cons (gr__law_same M n) (Nat.le_refl _) Goods.nil) rfl
theorem g__law_same (M : Mod K mg) : Good P w K mg base 12 "_law_same" i__law_same := gr__law_same M 12
theorem gr__law_copied (M : Mod K mg) : ∀ n, Good P w K mg base (0 + n) "_law_copied" ⟨[.lk], false, c__law_copied n⟩
  | 0 => good_none M._law_copied
  | n + 1 => def_good (k := 0 + n) M._law_copied sc__law_copied M.names rfl rfl rfl rfl (rd__law_copied (c__law_copied n)) (fun h => by cases h) (Goods.cons (gr__law_copied M n) (Nat.le_refl _) Goods.nil) rfl
theorem g__law_copied (M : Mod K mg) : Good P w K mg base 12 "_law_copied" i__law_copied := gr__law_copied M 12
theorem g__law_gcd (M : Mod K mg) : Good P w K mg base 1 "_law_gcd" i__law_gcd := def_good (k := 0) M._law_gcd sc__law_gcd M.names rfl rfl rfl rfl rd__law_gcd (fun h => by cases h) Goods.nil rfl
theorem g__law_ratio (M : Mod K mg) : Good P w K mg base 2 "_law_ratio" i__law_ratio := def_good (k := 1) M._law_ratio sc__law_ratio M.names rfl rfl rfl rfl rd__law_ratio (fun h => by cases h) (Goods.cons (g__law_gcd M) (by decide) Goods.nil) rfl
theorem g__law_name (M : Mod K mg) : Good P w K mg base 5 "_law_name" i__law_name := def_good (k := 4) M._law_name sc__law_name M.names rfl rfl rfl rfl rd__law_name (fun _ => ⟨rfl, by decide⟩) (Goods.cons (g__law_draw M) (by decide) (Goods.cons (g__law_pick M) (by decide) Goods.nil)) rfl
theorem g__law_change_drawn (M : Mod K mg) : Good P w K mg base 5 "_law_change_drawn" i__law_change_drawn := def_good (k := 4) M._law_change_drawn sc__law_change_drawn M.names rfl rfl rfl rfl rd__law_change_drawn (fun _ => ⟨rfl, by decide⟩) (Goods.cons (g__law_draw M) (by decide) (Goods.cons (g__law_pick M) (by decide) (Goods.cons (g__law_ratio M) (by decide) Goods.nil))) rfl
theorem g__law_word (M : Mod K mg) : Good P w K mg base 1 "_law_word" i__law_word := def_good (k := 0) M._law_word sc__law_word M.names rfl rfl rfl rfl rd__law_word (fun h => by cases h) Goods.nil rfl
theorem g__law_line (M : Mod K mg) : Good P w K mg base 2 "_law_line" i__law_line := def_good (k := 1) M._law_line sc__law_line M.names rfl rfl rfl rfl rd__law_line (fun h => by cases h) (Goods.cons (g__law_word M) (by decide) Goods.nil) rfl
theorem g__law_drawn (M : Mod K mg) : Good P w K mg base 6 "_law_drawn" i__law_drawn := def_good (k := 5) M._law_drawn sc__law_drawn M.names rfl rfl rfl rfl rd__law_drawn (fun _ => ⟨rfl, by decide⟩) (Goods.cons (g__law_draw M) (by decide) (Goods.cons (g__law_change_drawn M) (by decide) (Goods.cons (g__law_ratio M) (by decide) (Goods.cons (g__law_pick M) (by decide) Goods.nil)))) rfl
theorem g__law_strange (M : Mod K mg) : Good P w K mg base 1 "_law_strange" i__law_strange := def_good (k := 0) M._law_strange sc__law_strange M.names rfl rfl rfl rfl rd__law_strange (fun h => by cases h) Goods.nil rfl
theorem g_law (M : Mod K mg) : Good P w K mg base 13 "law" i_law := def_good (k := 12) M.law sc_law M.names rfl rfl rfl rfl rd_law (fun h => by cases h) (Goods.cons (g__law_pool M) (by decide) (Goods.cons (g__law_next M) (by decide) (Goods.cons (g__law_drawn M) (by decide) (Goods.cons (g__law_line M) (by decide) (Goods.cons (g__law_draw M) (by decide) (Goods.cons (g__law_pick M) (by decide) (Goods.cons (g__law_name M) (by decide) (Goods.cons (g__law_same M) (by decide) (Goods.cons (g_entry_of M) (by decide) (Goods.cons (g_line_of M) (by decide) (Goods.cons (g__law_strange M) (by decide) (Goods.cons (g__law_copied M) (by decide) Goods.nil)))))))))))) rfl
theorem f_law (M : Mod K mg) {f : Addr} {fd : FuncData} (F : Fun K "law" "law" st_law f fd) : FnOk P w K mg base CX0 13 f fd ["script"] (spG K 1 false c_law) :=
  def_fn (k := 12) (fi := i_law) F sc_law M.names rfl rfl rfl rfl rd_law (fun h => by cases h) (Goods.cons (g__law_pool M) (by decide) (Goods.cons (g__law_next M) (by decide) (Goods.cons (g__law_drawn M) (by decide) (Goods.cons (g__law_line M) (by decide) (Goods.cons (g__law_draw M) (by decide) (Goods.cons (g__law_pick M) (by decide) (Goods.cons (g__law_name M) (by decide) (Goods.cons (g__law_same M) (by decide) (Goods.cons (g_entry_of M) (by decide) (Goods.cons (g_line_of M) (by decide) (Goods.cons (g__law_strange M) (by decide) (Goods.cons (g__law_copied M) (by decide) Goods.nil)))))))))))) rfl
end
theorem all_mk {l : PySem.W.OpenLaw} {w : World} {K : PySem.W.Frag} {h : Heap} {mg : Str → Option Value} {fa : Addr} (X : K.In h) (G : h.Ns mainGlobals mg) (hfa : mg "law" = some (.ref fa))
    {f1 : Addr} {oc1 kV1 dc1 pm1 cd1 ct1 : Value} {od1 an1 : Option Addr} {sl1 : Array (Option Value)}
    {f2 : Addr} {oc2 kV2 dc2 pm2 cd2 ct2 : Value} {od2 an2 : Option Addr} {sl2 : Array (Option Value)}
    {f3 : Addr} {oc3 kV3 dc3 pm3 cd3 ct3 : Value} {od3 an3 : Option Addr} {sl3 : Array (Option Value)}
    {f4 : Addr} {oc4 kV4 dc4 pm4 cd4 ct4 : Value} {od4 an4 : Option Addr} {sl4 : Array (Option Value)}
    {f5 : Addr} {oc5 kV5 dc5 pm5 cd5 ct5 : Value} {od5 an5 : Option Addr} {sl5 : Array (Option Value)}
    {f6 : Addr} {oc6 kV6 dc6 pm6 cd6 ct6 : Value} {od6 an6 : Option Addr} {sl6 : Array (Option Value)}
    {f7 : Addr} {oc7 kV7 dc7 pm7 cd7 ct7 : Value} {od7 an7 : Option Addr} {sl7 : Array (Option Value)}
    {f8 : Addr} {oc8 kV8 dc8 pm8 cd8 ct8 : Value} {od8 an8 : Option Addr} {sl8 : Array (Option Value)}
    {f9 : Addr} {oc9 kV9 dc9 pm9 cd9 ct9 : Value} {od9 an9 : Option Addr} {sl9 : Array (Option Value)}
    {f10 : Addr} {oc10 kV10 dc10 pm10 cd10 ct10 : Value} {od10 an10 : Option Addr} {sl10 : Array (Option Value)}
    {f11 : Addr} {oc11 kV11 dc11 pm11 cd11 ct11 : Value} {od11 an11 : Option Addr} {sl11 : Array (Option Value)}
    {f12 : Addr} {oc12 kV12 dc12 pm12 cd12 ct12 : Value} {od12 an12 : Option Addr} {sl12 : Array (Option Value)}
    {f13 : Addr} {oc13 kV13 dc13 pm13 cd13 ct13 : Value} {od13 an13 : Option Addr} {sl13 : Array (Option Value)}
    {f14 : Addr} {oc14 kV14 dc14 pm14 cd14 ct14 : Value} {od14 an14 : Option Addr} {sl14 : Array (Option Value)}
    {f15 : Addr} {oc15 kV15 dc15 pm15 cd15 ct15 : Value} {od15 an15 : Option Addr} {sl15 : Array (Option Value)}
    {f16 : Addr} {oc16 kV16 dc16 pm16 cd16 ct16 : Value} {od16 an16 : Option Addr} {sl16 : Array (Option Value)}
    {f17 : Addr} {oc17 kV17 dc17 pm17 cd17 ct17 : Value} {od17 an17 : Option Addr} {sl17 : Array (Option Value)}
    {f18 : Addr} {oc18 kV18 dc18 pm18 cd18 ct18 : Value} {od18 an18 : Option Addr} {sl18 : Array (Option Value)}
    {f19 : Addr} {oc19 kV19 dc19 pm19 cd19 ct19 : Value} {od19 an19 : Option Addr} {sl19 : Array (Option Value)}
    {f20 : Addr} {oc20 kV20 dc20 pm20 cd20 ct20 : Value} {od20 an20 : Option Addr} {sl20 : Array (Option Value)}
    {f21 : Addr} {oc21 kV21 dc21 pm21 cd21 ct21 : Value} {od21 an21 : Option Addr} {sl21 : Array (Option Value)}
    {f22 : Addr} {oc22 kV22 dc22 pm22 cd22 ct22 : Value} {od22 an22 : Option Addr} {sl22 : Array (Option Value)}
    {f23 : Addr} {oc23 kV23 dc23 pm23 cd23 ct23 : Value} {od23 an23 : Option Addr} {sl23 : Array (Option Value)}
    {f24 : Addr} {oc24 kV24 dc24 pm24 cd24 ct24 : Value} {od24 an24 : Option Addr} {sl24 : Array (Option Value)}
    {f25 : Addr} {oc25 kV25 dc25 pm25 cd25 ct25 : Value} {od25 an25 : Option Addr} {sl25 : Array (Option Value)}
    {ct1_ : PySem.Tok}
    {ct2_ : PySem.Tok}
    {ca3 : Addr} {cod3 : Option Addr} {cs3 : Array (Option Value)} {ct1_3 ct2_3 ct3_3 : PySem.Tok} {cn3 : Nat}
    (a1 : PySem.W.nsIn K mainGlobals "number_word" = some (some (.ref f1))) (l1 : K.lookup f1 = some ⟨oc1, od1, .func (PySem.W.fnOf "number_word" "number_word" (defArgs st_number_word) (defBody st_number_word) (defScope st_number_word) .none kV1 dc1 pm1 an1 cd1 ct1), sl1⟩) (c1 : PySem.W.codeIn K cd1 "number_word" = true) (k1 : PySem.W.keepIn K (.ref f1) = true)
    (a2 : PySem.W.nsIn K mainGlobals "line_of" = some (some (.ref f2))) (l2 : K.lookup f2 = some ⟨oc2, od2, .func (PySem.W.fnOf "line_of" "line_of" (defArgs st_line_of) (defBody st_line_of) (defScope st_line_of) .none kV2 dc2 pm2 an2 cd2 ct2), sl2⟩) (c2 : PySem.W.codeIn K cd2 "line_of" = true) (k2 : PySem.W.keepIn K (.ref f2) = true)
    (a3 : PySem.W.nsIn K mainGlobals "is_name" = some (some (.ref f3))) (l3 : K.lookup f3 = some ⟨oc3, od3, .func (PySem.W.fnOf "is_name" "is_name" (defArgs st_is_name) (defBody st_is_name) (defScope st_is_name) .none kV3 dc3 pm3 an3 cd3 ct3), sl3⟩) (c3 : PySem.W.codeIn K cd3 "is_name" = true) (k3 : PySem.W.keepIn K (.ref f3) = true)
    (a4 : PySem.W.nsIn K mainGlobals "whole_in" = some (some (.ref f4))) (l4 : K.lookup f4 = some ⟨oc4, od4, .func (PySem.W.fnOf "whole_in" "whole_in" (defArgs st_whole_in) (defBody st_whole_in) (defScope st_whole_in) .none kV4 dc4 pm4 an4 cd4 ct4), sl4⟩) (c4 : PySem.W.codeIn K cd4 "whole_in" = true) (k4 : PySem.W.keepIn K (.ref f4) = true)
    (a5 : PySem.W.nsIn K mainGlobals "shares" = some (some (.ref f5))) (l5 : K.lookup f5 = some ⟨oc5, od5, .func (PySem.W.fnOf "shares" "shares" (defArgs st_shares) (defBody st_shares) (defScope st_shares) .none kV5 dc5 pm5 an5 cd5 ct5), sl5⟩) (c5 : PySem.W.codeIn K cd5 "shares" = true) (k5 : PySem.W.keepIn K (.ref f5) = true)
    (a6 : PySem.W.nsIn K mainGlobals "number_in" = some (some (.ref f6))) (l6 : K.lookup f6 = some ⟨oc6, od6, .func (PySem.W.fnOf "number_in" "number_in" (defArgs st_number_in) (defBody st_number_in) (defScope st_number_in) .none kV6 dc6 pm6 an6 cd6 ct6), sl6⟩) (c6 : PySem.W.codeIn K cd6 "number_in" = true) (k6 : PySem.W.keepIn K (.ref f6) = true)
    (a7 : PySem.W.nsIn K mainGlobals "change_in" = some (some (.ref f7))) (l7 : K.lookup f7 = some ⟨oc7, od7, .func (PySem.W.fnOf "change_in" "change_in" (defArgs st_change_in) (defBody st_change_in) (defScope st_change_in) .none kV7 dc7 pm7 an7 cd7 ct7), sl7⟩) (c7 : PySem.W.codeIn K cd7 "change_in" = true) (k7 : PySem.W.keepIn K (.ref f7) = true)
    (a8 : PySem.W.nsIn K mainGlobals "entry_of" = some (some (.ref f8))) (l8 : K.lookup f8 = some ⟨oc8, od8, .func (PySem.W.fnOf "entry_of" "entry_of" (defArgs st_entry_of) (defBody st_entry_of) (defScope st_entry_of) .none kV8 dc8 pm8 an8 cd8 ct8), sl8⟩) (c8 : PySem.W.codeIn K cd8 "entry_of" = true) (k8 : PySem.W.keepIn K (.ref f8) = true)
    (a9 : PySem.W.nsIn K mainGlobals "_law_mixed" = some (some (.ref f9))) (l9 : K.lookup f9 = some ⟨oc9, od9, .func (PySem.W.fnOf "_law_mixed" "_law_mixed" (defArgs st__law_mixed) (defBody st__law_mixed) (defScope st__law_mixed) .none kV9 dc9 pm9 an9 cd9 ct9), sl9⟩) (c9 : PySem.W.codeIn K cd9 "_law_mixed" = true) (k9 : PySem.W.keepIn K (.ref f9) = true)
    (a10 : PySem.W.nsIn K mainGlobals "_law_rest" = some (some (.ref f10))) (l10 : K.lookup f10 = some ⟨oc10, od10, .func (PySem.W.fnOf "_law_rest" "_law_rest" (defArgs st__law_rest) (defBody st__law_rest) (defScope st__law_rest) .none kV10 dc10 pm10 an10 cd10 ct10), sl10⟩) (c10 : PySem.W.codeIn K cd10 "_law_rest" = true) (k10 : PySem.W.keepIn K (.ref f10) = true)
    (a11 : PySem.W.nsIn K mainGlobals "_law_pool" = some (some (.ref f11))) (l11 : K.lookup f11 = some ⟨oc11, od11, .func (PySem.W.fnOf "_law_pool" "_law_pool" (defArgs st__law_pool) (defBody st__law_pool) (defScope st__law_pool) .none kV11 dc11 pm11 an11 cd11 ct11), sl11⟩) (c11 : PySem.W.codeIn K cd11 "_law_pool" = true) (k11 : PySem.W.keepIn K (.ref f11) = true)
    (a12 : PySem.W.nsIn K mainGlobals "_law_next" = some (some (.ref f12))) (l12 : K.lookup f12 = some ⟨oc12, od12, .func (PySem.W.fnOf "_law_next" "_law_next" (defArgs st__law_next) (defBody st__law_next) (defScope st__law_next) .none kV12 dc12 pm12 an12 cd12 ct12), sl12⟩) (c12 : PySem.W.codeIn K cd12 "_law_next" = true) (k12 : PySem.W.keepIn K (.ref f12) = true)
    (a13 : PySem.W.nsIn K mainGlobals "_law_draw" = some (some (.ref f13))) (l13 : K.lookup f13 = some ⟨oc13, od13, .func (PySem.W.fnOf "_law_draw" "_law_draw" (defArgs st__law_draw) (defBody st__law_draw) (defScope st__law_draw) .none kV13 dc13 pm13 an13 cd13 ct13), sl13⟩) (c13 : PySem.W.codeIn K cd13 "_law_draw" = true) (k13 : PySem.W.keepIn K (.ref f13) = true)
    (a14 : PySem.W.nsIn K mainGlobals "_law_pick" = some (some (.ref f14))) (l14 : K.lookup f14 = some ⟨oc14, od14, .func (PySem.W.fnOf "_law_pick" "_law_pick" (defArgs st__law_pick) (defBody st__law_pick) (defScope st__law_pick) .none kV14 dc14 pm14 an14 cd14 ct14), sl14⟩) (c14 : PySem.W.codeIn K cd14 "_law_pick" = true) (k14 : PySem.W.keepIn K (.ref f14) = true)
    (a15 : PySem.W.nsIn K mainGlobals "_law_same" = some (some (.ref f15))) (l15 : K.lookup f15 = some ⟨oc15, od15, .func (PySem.W.fnOf "_law_same" "_law_same" (defArgs st__law_same) (defBody st__law_same) (defScope st__law_same) .none kV15 dc15 pm15 an15 cd15 ct15), sl15⟩) (c15 : PySem.W.codeIn K cd15 "_law_same" = true) (k15 : PySem.W.keepIn K (.ref f15) = true)
    (a16 : PySem.W.nsIn K mainGlobals "_law_copied" = some (some (.ref f16))) (l16 : K.lookup f16 = some ⟨oc16, od16, .func (PySem.W.fnOf "_law_copied" "_law_copied" (defArgs st__law_copied) (defBody st__law_copied) (defScope st__law_copied) .none kV16 dc16 pm16 an16 cd16 ct16), sl16⟩) (c16 : PySem.W.codeIn K cd16 "_law_copied" = true) (k16 : PySem.W.keepIn K (.ref f16) = true)
    (a17 : PySem.W.nsIn K mainGlobals "_law_gcd" = some (some (.ref f17))) (l17 : K.lookup f17 = some ⟨oc17, od17, .func (PySem.W.fnOf "_law_gcd" "_law_gcd" (defArgs st__law_gcd) (defBody st__law_gcd) (defScope st__law_gcd) .none kV17 dc17 pm17 an17 cd17 ct17), sl17⟩) (c17 : PySem.W.codeIn K cd17 "_law_gcd" = true) (k17 : PySem.W.keepIn K (.ref f17) = true)
    (a18 : PySem.W.nsIn K mainGlobals "_law_ratio" = some (some (.ref f18))) (l18 : K.lookup f18 = some ⟨oc18, od18, .func (PySem.W.fnOf "_law_ratio" "_law_ratio" (defArgs st__law_ratio) (defBody st__law_ratio) (defScope st__law_ratio) .none kV18 dc18 pm18 an18 cd18 ct18), sl18⟩) (c18 : PySem.W.codeIn K cd18 "_law_ratio" = true) (k18 : PySem.W.keepIn K (.ref f18) = true)
    (a19 : PySem.W.nsIn K mainGlobals "_law_name" = some (some (.ref f19))) (l19 : K.lookup f19 = some ⟨oc19, od19, .func (PySem.W.fnOf "_law_name" "_law_name" (defArgs st__law_name) (defBody st__law_name) (defScope st__law_name) .none kV19 dc19 pm19 an19 cd19 ct19), sl19⟩) (c19 : PySem.W.codeIn K cd19 "_law_name" = true) (k19 : PySem.W.keepIn K (.ref f19) = true)
    (a20 : PySem.W.nsIn K mainGlobals "_law_change_drawn" = some (some (.ref f20))) (l20 : K.lookup f20 = some ⟨oc20, od20, .func (PySem.W.fnOf "_law_change_drawn" "_law_change_drawn" (defArgs st__law_change_drawn) (defBody st__law_change_drawn) (defScope st__law_change_drawn) .none kV20 dc20 pm20 an20 cd20 ct20), sl20⟩) (c20 : PySem.W.codeIn K cd20 "_law_change_drawn" = true) (k20 : PySem.W.keepIn K (.ref f20) = true)
    (a21 : PySem.W.nsIn K mainGlobals "_law_word" = some (some (.ref f21))) (l21 : K.lookup f21 = some ⟨oc21, od21, .func (PySem.W.fnOf "_law_word" "_law_word" (defArgs st__law_word) (defBody st__law_word) (defScope st__law_word) .none kV21 dc21 pm21 an21 cd21 ct21), sl21⟩) (c21 : PySem.W.codeIn K cd21 "_law_word" = true) (k21 : PySem.W.keepIn K (.ref f21) = true)
    (a22 : PySem.W.nsIn K mainGlobals "_law_line" = some (some (.ref f22))) (l22 : K.lookup f22 = some ⟨oc22, od22, .func (PySem.W.fnOf "_law_line" "_law_line" (defArgs st__law_line) (defBody st__law_line) (defScope st__law_line) .none kV22 dc22 pm22 an22 cd22 ct22), sl22⟩) (c22 : PySem.W.codeIn K cd22 "_law_line" = true) (k22 : PySem.W.keepIn K (.ref f22) = true)
    (a23 : PySem.W.nsIn K mainGlobals "_law_drawn" = some (some (.ref f23))) (l23 : K.lookup f23 = some ⟨oc23, od23, .func (PySem.W.fnOf "_law_drawn" "_law_drawn" (defArgs st__law_drawn) (defBody st__law_drawn) (defScope st__law_drawn) .none kV23 dc23 pm23 an23 cd23 ct23), sl23⟩) (c23 : PySem.W.codeIn K cd23 "_law_drawn" = true) (k23 : PySem.W.keepIn K (.ref f23) = true)
    (a24 : PySem.W.nsIn K mainGlobals "_law_strange" = some (some (.ref f24))) (l24 : K.lookup f24 = some ⟨oc24, od24, .func (PySem.W.fnOf "_law_strange" "_law_strange" (defArgs st__law_strange) (defBody st__law_strange) (defScope st__law_strange) .none kV24 dc24 pm24 an24 cd24 ct24), sl24⟩) (c24 : PySem.W.codeIn K cd24 "_law_strange" = true) (k24 : PySem.W.keepIn K (.ref f24) = true)
    (a25 : PySem.W.nsIn K mainGlobals "law" = some (some (.ref f25))) (l25 : K.lookup f25 = some ⟨oc25, od25, .func (PySem.W.fnOf "law" "law" (defArgs st_law) (defBody st_law) (defScope st_law) .none kV25 dc25 pm25 an25 cd25 ct25), sl25⟩) (c25 : PySem.W.codeIn K cd25 "law" = true) (k25 : PySem.W.keepIn K (.ref f25) = true)
    (ca1_ : PySem.W.nsIn K mainGlobals "LETTERS" = some (some (.str "abcdefghijklmnopqrstuvwxyz" ct1_)))
    (ca2_ : PySem.W.nsIn K mainGlobals "DIGITS" = some (some (.str "0123456789" ct2_)))
    (ca3_ : PySem.W.nsIn K mainGlobals "WAYS" = some (some (.ref ca3))) (cl3 : K.lookup ca3 = some ⟨.type "tuple", cod3, .seq #[.str "both" ct1_3, .str "x" ct2_3, .str "y" ct3_3] cn3, cs3⟩)
    (z1 : PySem.W.nsIn K mainGlobals "len" = some none)
    (z2 : PySem.W.nsIn K mainGlobals "int" = some none)
    (z3 : PySem.W.nsIn K mainGlobals "abs" = some none)
    (z4 : PySem.W.nsIn K mainGlobals "str" = some none)
    (z5 : PySem.W.nsIn K mainGlobals "list" = some none)
    (z6 : PySem.W.nsIn K mainGlobals "tuple" = some none)
    (z7 : PySem.W.nsIn K mainGlobals "all" = some none)
    (z8 : PySem.W.nsIn K mainGlobals "any" = some none)
    (z9 : PySem.W.nsIn K mainGlobals "max" = some none)
    (z10 : PySem.W.nsIn K mainGlobals "min" = some none)
    (z11 : PySem.W.nsIn K mainGlobals "sorted" = some none)
    (z12 : PySem.W.nsIn K mainGlobals "range" = some none)
    (z13 : PySem.W.nsIn K mainGlobals "isinstance" = some none)
    (z14 : PySem.W.nsIn K mainGlobals "dict" = some none)
    (z15 : PySem.W.nsIn K mainGlobals "bool" = some none)
    : ∃ fd : FuncData, (∀ (s : Shared) (u : Value), BindsTo s fd ⟨[u], []⟩ [("script", u)]) ∧ ∀ base : Heap, K.In base → base.Ns mainGlobals mg → FnOk l.prog w K mg base CX0 13 fa fd ["script"] (spG K 1 false c_law) := by
  have e := hfa.symm.trans (PySem.W.mg_of X G a25)
  cases e
  have nm : Names K mg CS BL GC := by
    exact ((((((((((((((((((names_nil.b (PySem.W.mg_none_of X G z15)).b (PySem.W.mg_none_of X G z14)).b (PySem.W.mg_none_of X G z13)).b (PySem.W.mg_none_of X G z12)).b (PySem.W.mg_none_of X G z11)).b (PySem.W.mg_none_of X G z10)).b (PySem.W.mg_none_of X G z9)).b (PySem.W.mg_none_of X G z8)).b (PySem.W.mg_none_of X G z7)).b (PySem.W.mg_none_of X G z6)).b (PySem.W.mg_none_of X G z5)).b (PySem.W.mg_none_of X G z4)).b (PySem.W.mg_none_of X G z3)).b (PySem.W.mg_none_of X G z2)).b (PySem.W.mg_none_of X G z1)).c (haveC_kd X G ca3_ (Kd.tup3 cl3 .str .str .str))).c (haveC_str X G ca2_)).c (haveC_str X G ca1_))
  have M : Mod K mg := ⟨have_mk X G (fun _ _ _ _ _ _ us hl => match us, hl with | [_], _ => rfl) a1 l1 c1 k1, have_mk X G (fun _ _ _ _ _ _ us hl => match us, hl with | [_], _ => rfl) a2 l2 c2 k2, have_mk X G (fun _ _ _ _ _ _ us hl => match us, hl with | [_], _ => rfl) a3 l3 c3 k3, have_mk X G (fun _ _ _ _ _ _ us hl => match us, hl with | [_], _ => rfl) a4 l4 c4 k4, have_mk X G (fun _ _ _ _ _ _ us hl => match us, hl with | [_, _], _ => rfl) a5 l5 c5 k5, have_mk X G (fun _ _ _ _ _ _ us hl => match us, hl with | [_], _ => rfl) a6 l6 c6 k6, have_mk X G (fun _ _ _ _ _ _ us hl => match us, hl with | [_], _ => rfl) a7 l7 c7 k7, have_mk X G (fun _ _ _ _ _ _ us hl => match us, hl with | [_], _ => rfl) a8 l8 c8 k8, have_mk X G (fun _ _ _ _ _ _ us hl => match us, hl with | [_, _], _ => rfl) a9 l9 c9 k9, have_mk X G (fun _ _ _ _ _ _ us hl => match us, hl with | [_, _, _], _ => rfl) a10 l10 c10 k10, have_mk X G (fun _ _ _ _ _ _ us hl => match us, hl with | [_], _ => rfl) a11 l11 c11 k11, have_mk X G (fun _ _ _ _ _ _ us hl => match us, hl with | [_], _ => rfl) a12 l12 c12 k12, have_mk X G (fun _ _ _ _ _ _ us hl => match us, hl with | [_, _], _ => rfl) a13 l13 c13 k13, have_mk X G (fun _ _ _ _ _ _ us hl => match us, hl with | [_, _], _ => rfl) a14 l14 c14 k14, have_mk X G (fun _ _ _ _ _ _ us hl => match us, hl with | [_, _], _ => rfl) a15 l15 c15 k15, have_mk X G (fun _ _ _ _ _ _ us hl => match us, hl with | [_], _ => rfl) a16 l16 c16 k16, have_mk X G (fun _ _ _ _ _ _ us hl => match us, hl with | [_, _], _ => rfl) a17 l17 c17 k17, have_mk X G (fun _ _ _ _ _ _ us hl => match us, hl with | [_, _], _ => rfl) a18 l18 c18 k18, have_mk X G (fun _ _ _ _ _ _ us hl => match us, hl with | [_, _], _ => rfl) a19 l19 c19 k19, have_mk X G (fun _ _ _ _ _ _ us hl => match us, hl with | [_, _], _ => rfl) a20 l20 c20 k20, have_mk X G (fun _ _ _ _ _ _ us hl => match us, hl with | [_], _ => rfl) a21 l21 c21 k21, have_mk X G (fun _ _ _ _ _ _ us hl => match us, hl with | [_], _ => rfl) a22 l22 c22 k22, have_mk X G (fun _ _ _ _ _ _ us hl => match us, hl with | [_, _], _ => rfl) a23 l23 c23 k23, have_mk X G (fun _ _ _ _ _ _ us hl => match us, hl with | [], _ => rfl) a24 l24 c24 k24, have_mk X G (fun _ _ _ _ _ _ us hl => match us, hl with | [_], _ => rfl) a25 l25 c25 k25, nm⟩
  have F := fun_mk (st := st_law) l25 c25 k25
  exact ⟨_, law_binds F (fun _ _ _ _ _ _ us hl => match us, hl with | [_], _ => rfl), fun base _ _ => f_law M F⟩
end K75
namespace K75
open G PySem PySem.Spec PyProof.Rows L2
/-! ### the pool of draws -/
theorem mixed_ok (m p : Int) : ∃ v, c__law_mixed [.F (.int m), .F (.int p)] = some (.F (.int v), none) := by
  have h1 : ∀ z : Int, (z % 618970019642690137449562111).natAbs < 2 ^ 100 := fun z => by
    have := Int.emod_nonneg z (show (618970019642690137449562111 : Int) ≠ 0 by decide)
    have := Int.emod_lt_of_pos z (show (0 : Int) < 618970019642690137449562111 by decide)
    omega
  have h2 : ∀ z : Int, (z % 162259276829213363391578010288127).natAbs < 2 ^ 110 := fun z => by
    have := Int.emod_nonneg z (show (162259276829213363391578010288127 : Int) ≠ 0 by decide)
    have := Int.emod_lt_of_pos z (show (0 : Int) < 162259276829213363391578010288127 by decide)
    omega
  simp [c__law_mixed, s__law_mixed, mulOk_r, mulOk_l, mulOk_of (h1 _) (h1 _), mulOk_of (h2 _) (h2 _), mulOk_of (h2 _) (show (618970019642690137449562111 : Int).natAbs < 2 ^ 100 by decide)]
theorem mixed_fn : ∃ mx : Int → Int → Int, ∀ m p, c__law_mixed [.F (.int m), .F (.int p)] = some (.F (.int (mx m p)), none) :=
  ⟨fun m p => (mixed_ok m p).choose, fun m p => (mixed_ok m p).choose_spec⟩
def Pl (ns : List Int) (l : List D) : Prop := ∃ a b c : Int, l = [scr ns, .int a, .int b, .int c]
theorem rest_ok (ns : List Int) (p f : Int) : ∃ v, c__law_rest [.F (scr ns), .F (.int p), .F (.int f)] = some (.F (.int v), none) := by
  obtain ⟨mx, hmx⟩ := mixed_fn
  by_cases h : 0 < ns.length
  · have h0 : (0 : Int) < ns.length := by omega
    have h1 : 0 ≤ p % ns.length := Int.emod_nonneg _ (by omega)
    have h2 : p % ns.length < ns.length := Int.emod_lt_of_pos _ h0
    obtain ⟨z, h3⟩ : ∃ z, atI (ns.map PyData.int) (p % ns.length) = some (.int z) := by
      have e : p % ns.length = (((p % ns.length).toNat : Nat) : Int) := by omega
      rw [e, atI_n, List.getElem?_map, List.getElem?_eq_getElem (by omega)]
      exact ⟨_, rfl⟩
    by_cases hz : z < 0 <;> by_cases hf : f = 0 <;> by_cases hp : p < ns.length <;> by_cases hq : (1000000000000000000 : Int) ≤ z <;> by_cases hq' : (1000000000000000000 : Int) ≤ 1 - 2 * z <;>
      simp [c__law_rest, s__law_rest, h, h0, h3, mulOk_r, mulOk_l, hz, hf, hp, hq, hq', hmx]
  · have h0 : ns = [] := List.length_eq_zero_iff.mp (by omega)
    subst h0
    by_cases hf : f = 0 <;> by_cases hp : p < 0 <;>
      simp [c__law_rest, s__law_rest, mulOk_r, mulOk_l, hf, hp, hmx]
theorem rest_fn (ns : List Int) : ∃ rs : Int → Int → Int, ∀ p f, c__law_rest [.F (scr ns), .F (.int p), .F (.int f)] = some (.F (.int (rs p f)), none) :=
  ⟨fun m p => (rest_ok ns m p).choose, fun m p => (rest_ok ns m p).choose_spec⟩
theorem pool_ok (ns : List Int) : ∃ l, c__law_pool [.F (scr ns)] = some (.O l, none) ∧ Pl ns l := by
  obtain ⟨rs, hrs⟩ := rest_fn ns
  simp [c__law_pool, s__law_pool, hrs, Pl]
theorem next_ok {ns : List Int} {l : List D} (h : Pl ns l) : ∃ l', c__law_next [.O l] = some (.F .none, some (.O l')) ∧ Pl ns l' := by
  obtain ⟨rs, hrs⟩ := rest_fn ns
  obtain ⟨a, b, c, rfl⟩ := h
  simp [c__law_next, s__law_next, hrs, Pl, ixN]
theorem draw_ok {ns : List Int} {l : List D} {m : Int} (h : Pl ns l) (h0 : 0 < m) (hb : m < 2 ^ 64) : ∃ v l', c__law_draw [.O l, .F (.int m)] = some (.F (.int v), some (.O l')) ∧ 0 ≤ v ∧ v < m ∧ Pl ns l' := by
  obtain ⟨rs, hrs⟩ := rest_fn ns
  obtain ⟨a, b, c, rfl⟩ := h
  have hd : divOk m = true := divOk_of (n := 64) h0 (by omega) (by decide)
  have q1 : ∀ z : Int, 0 ≤ z % m := fun z => Int.emod_nonneg z (by omega)
  have q2 : ∀ z : Int, z % m < m := fun z => Int.emod_lt_of_pos z h0
  by_cases hb : b ≤ 1
  · simp [c__law_draw, s__law_draw, hrs, Pl, ixN, hb, h0, hd]
    exact ⟨_, _, ⟨rfl, rfl⟩, q1 _, q2 _, _, _, _, rfl⟩
  · simp [c__law_draw, s__law_draw, hrs, Pl, ixN, hb, h0, hd]
    exact ⟨_, _, ⟨rfl, rfl⟩, q1 _, q2 _, _, _, _, rfl⟩
theorem pick_ok {ns : List Int} {l : List D} {xs : List D} (h : Pl ns l) (h0 : xs ≠ []) (hb : xs.length < 2 ^ 60) : ∃ d l', c__law_pick [.O l, .K xs] = some (.F d, some (.O l')) ∧ d ∈ xs ∧ Pl ns l' := by
  have hp : 0 < xs.length := List.length_pos_iff.mpr h0
  obtain ⟨v, l', e, v0, v1, h'⟩ := draw_ok h (m := (xs.length : Int)) (by omega) (by omega)
  obtain ⟨k, rfl⟩ := Int.eq_ofNat_of_zero_le v0
  have hk : k < xs.length := by omega
  refine ⟨xs[k], l', ?_, List.getElem_mem hk, h'⟩
  simp [c__law_pick, s__law_pick, e, hk]

/-! ### the law's fractions (by _law_gcd, _law_ratio) -/
abbrev gcdB : SemS := (cSeq (cIf (asB (s2 dEq (sVar 1) (sData (.int 0)))) (cSeq cBk cNil) cNil) (cSeq (cPar 0 1 (aCons (sVar 1) (aCons (s2 dMod (sAlt (s1 dInt (sVar 0)) (s1 dIntS (sVar 0))) (sVar 1)) aNil))) cNil))
theorem eucl_loop : ∀ (k n : Nat) (lo : Int) (a b : Nat) (c4 : Option Cell), b < 2 ^ k → 2 * k + 1 ≤ n → ∃ c4',
    forR (gNm 2) gcdB 1 n lo [some (.F (.int a)), some (.F (.int b)), c4]
      = some (.nx, [some (.F (.int (Nat.gcd a b : Nat))), some (.F (.int 0)), c4']) := by
  have stop : ∀ (n : Nat) (lo : Int) (a : Nat) (c4 : Option Cell), 1 ≤ n → ∃ c4',
      forR (gNm 2) gcdB 1 n lo [some (.F (.int a)), some (.F (.int 0)), c4]
        = some (.nx, [some (.F (.int (a : Nat))), some (.F (.int 0)), c4']) := fun n lo a c4 hn => by
    obtain ⟨m, rfl⟩ : ∃ m, n = m + 1 := ⟨n - 1, by omega⟩
    rw [forR_succ]
    simp
  have step : ∀ (n : Nat) (lo : Int) (a b : Nat) (c4 : Option Cell), b ≠ 0 →
      forR (gNm 2) gcdB 1 (n + 1) lo [some (.F (.int a)), some (.F (.int b)), c4]
        = forR (gNm 2) gcdB 1 n (lo + 1) [some (.F (.int b)), some (.F (.int ((a % b : Nat)))), some (.F (.int lo))] := fun n lo a b c4 hb => by
    rw [forR_succ]
    have h1 : 0 < b := by omega
    simp [hb, h1]
  intro k
  induction k with
  | zero =>
    intro n lo a b c4 hb hn
    have : b = 0 := by simp at hb; exact hb
    subst this
    rw [Nat.gcd_zero_right]
    exact stop n lo a c4 (by omega)
  | succ k ih =>
    intro n lo a b c4 hb hn
    by_cases h0 : b = 0
    · subst h0
      rw [Nat.gcd_zero_right]
      exact stop n lo a c4 (by omega)
    · obtain ⟨m, rfl⟩ : ∃ m, n = m + 1 + 1 := ⟨n - 2, by omega⟩
      rw [step _ lo a b c4 h0]
      have g1 : Nat.gcd a b = Nat.gcd b (a % b) := by rw [Nat.gcd_comm, Nat.gcd_rec, Nat.gcd_comm]
      rw [g1]
      have hr : a % b < b := Nat.mod_lt _ (by omega)
      by_cases h1 : a % b = 0
      · rw [h1, Nat.gcd_zero_right]
        exact stop _ _ b _ (by omega)
      · rw [step _ _ b (a % b) _ h1]
        have g2 : Nat.gcd b (a % b) = Nat.gcd (a % b) (b % (a % b)) := by rw [Nat.gcd_comm, Nat.gcd_rec, Nat.gcd_comm]
        rw [g2]
        refine ih m _ _ _ _ ?_ (by omega)
        have hm : b % (a % b) < a % b := Nat.mod_lt _ (by omega)
        have hq : 1 ≤ b / (a % b) := (Nat.one_le_div_iff (by omega)).mpr (by omega)
        have hd := Nat.div_add_mod b (a % b)
        have : a % b ≤ (a % b) * (b / (a % b)) := Nat.le_mul_of_pos_right _ (by omega)
        rw [Nat.pow_succ] at hb
        omega
theorem lratio_ok {p q : Int} {n : Nat} (hq : q ≠ 0) (hb : q.natAbs < 2 ^ n) (hn : n ≤ 9000) : c__law_ratio [.F (.int p), .F (.int q)] = some (.F (R (Rat.divInt p q)), none) := by
  have key : ∀ {p q : Int}, 0 < q → q.natAbs < 2 ^ n → divOk ((Nat.gcd p.natAbs q.natAbs : Nat) : Int) = true ∧ PyData.tuple [.int (p / ((Nat.gcd p.natAbs q.natAbs : Nat) : Int)), .int (q / ((Nat.gcd p.natAbs q.natAbs : Nat) : Int))] = R (Rat.divInt p q) := fun {p q} h1 h2 => by
    obtain ⟨a, b⟩ := divInt_pos (p := p) h1
    refine ⟨divOk_of (n := n) ?_ ?_ hn, R_of a b⟩
    · have := Nat.gcd_pos_of_pos_right p.natAbs (show 0 < q.natAbs by omega)
      omega
    · refine Nat.lt_of_le_of_lt ?_ h2
      rw [Int.natAbs_natCast]
      exact Nat.gcd_le_right _ (by omega)
  have ab : ∀ z : Int, (if z < 0 then -z else z) = ((z.natAbs : Nat) : Int) := fun z => by split <;> omega
  have hr : rgOk 400000 = true := by decide
  have gc : ∀ a b : Nat, b < 2 ^ n → c__law_gcd [.F (.int a), .F (.int b)] = some (.F (.int (Nat.gcd a b : Nat)), none) := fun a b hb => by
    obtain ⟨c4', e⟩ := eucl_loop n 400000 0 a b none hb (by omega)
    simp [c__law_gcd, s__law_gcd, cFor_ap, Src.loop, hr, e]
  by_cases h : q < 0
  · obtain ⟨k1, k2⟩ := key (p := -p) (q := -q) (by omega) (by omega)
    rw [Rat.neg_divInt_neg, Int.natAbs_neg, Int.natAbs_neg] at k2
    rw [Int.natAbs_neg, Int.natAbs_neg] at k1
    have e := gc p.natAbs q.natAbs hb
    rw [show ((q.natAbs : Nat) : Int) = -q by omega] at e
    have abn : (if 0 < p then p else -p) = ((p.natAbs : Nat) : Int) := by split <;> omega
    simp [c__law_ratio, s__law_ratio, abn, e, h, k1, k2]
  · obtain ⟨k1, k2⟩ := key (p := p) (q := q) (by omega) hb
    have e := gc p.natAbs q.natAbs hb
    rw [show ((q.natAbs : Nat) : Int) = q by omega] at e
    simp [c__law_ratio, s__law_ratio, ab p, e, h, k1, k2]

/-! ### the law's comparison -/
theorem same_all {c : Cal} {xs : List D} {C : Cell} (hC : C.pv = .list xs ∨ C.pv = .tuple xs) (ih : ∀ d ∈ xs, c [lockD d, lockD d] = some (.F (.bool true), none)) :
    lcR (gNm 3) bYes (sCall c [.lk, .lk] (iCons .lk (s2 dIx (sVar 0) (sVar 3)) (iCons .lk (s2 dIx (sVar 1) (sVar 3)) iNil))) [3] 1 xs.length 0 [some C, some C, none, none] = some ((List.range xs.length).map fun _ => PyData.bool true, [some C, some C, none, none]) := by
  refine lcR_map (h := fun _ => .bool true) xs.length 0 (fun i h1 h2 => ?_)
  obtain ⟨j, rfl⟩ := Int.eq_ofNat_of_zero_le h1
  have hj : j < xs.length := by omega
  have e := ih xs[j] (List.getElem_mem hj)
  refine ⟨[some C, some C, none, some (.F (.int j))], [some C, some C, none, some (.F (.int j))], .val (.F (.bool true)), [some C, some C, none, some (.F (.int j))], [some C, some C, none, some (.F (.int j))], rfl, rfl, ?_, rfl, rfl⟩
  rcases hC with hC | hC <;> simp [hC, hj, e]
theorem all_true {n : Nat} : dAll (.list ((List.range n).map fun _ => PyData.bool true)) = some (.F (.bool true)) := dAll_true (n := n) (by
  rw [List.map_const', List.length_range]
  simp)
theorem same_self : ∀ (k : Nat) (d : D), Sz k d → c__law_same (k + 1) [lockD d, lockD d] = some (.F (.bool true), none) := by
  intro k
  induction k with
  | zero =>
    intro d h
    show fnCal 2 false 4 (s__law_same (c__law_same 0)) _ = _
    generalize c__law_same 0 = c
    cases h with
    | @b _ m => cases m <;> simp [s__law_same]
    | _ => simp [s__law_same]
  | succ k ih =>
    intro d h
    show fnCal 2 false 4 (s__law_same (c__law_same (k + 1))) _ = _
    generalize c__law_same (k + 1) = c at *
    cases h with
    | n => simp [s__law_same]
    | i => simp [s__law_same]
    | s => simp [s__law_same]
    | @b _ m => cases m <;> simp [s__law_same]
    | @t _ xs h hl =>
      have hb : rgOk (xs.length : Int) = true := by unfold rgOk; simp; omega
      have q := same_all (c := c) (C := .F (.tuple xs)) (.inr rfl) fun d hd => ih d (h d hd)
      have q1 : rRg1 (aCons (s1 dLen (sVar 1)) aNil) [some (.F (.tuple xs)), some (.F (.tuple xs)), none, none] = some (.rg 0 1 xs.length, [some (.F (.tuple xs)), some (.F (.tuple xs)), none, none]) := by simp [hb]
      have q2 := sLc_rg q1 hl q
      simp [s__law_same, q2, all_true]
    | @l _ xs h hl =>
      have hb : rgOk (xs.length : Int) = true := by unfold rgOk; simp; omega
      have q := same_all (c := c) (C := .K xs) (.inl rfl) fun d hd => ih d (h d hd)
      have q1 : rRg1 (aCons (s1 dLen (sVar 1)) aNil) [some (.K xs), some (.K xs), none, none] = some (.rg 0 1 xs.length, [some (.K xs), some (.K xs), none, none]) := by simp [hb]
      have q2 := sLc_rg q1 hl q
      simp [s__law_same, q2, all_true]
theorem same_ok {k : Nat} {d : D} (h : Sz k d) (hk : k ≤ 11) : c__law_same 12 [lockD d, lockD d] = some (.F (.bool true), none) := same_self 11 d (h.mono hk)

/-! ### k75: whole numbers and fractions as texts -/
abbrev TX := List Nat
theorem signs_int (z : Int) : (Str.ofString (toString z)).cps.toList = if z < 0 then 45 :: TL.numL z.natAbs else TL.numL z.natAbs := by
  cases z with
  | ofNat n =>
    have h : ¬ (Int.ofNat n < 0) := by have := Int.natCast_nonneg n; simp <;> omega
    rw [if_neg h]
    exact TL.tl_num n
  | negSucc n =>
    rw [if_pos (Int.negSucc_lt_zero n)]
    have e : toString (Int.negSucc n) = "-" ++ toString (((n + 1 : Nat) : Int)) := rfl
    have e2 := TL.tl_num (n + 1)
    unfold TL.tl at e2
    rw [e, PyProof.Rows.signs_ofString, String.toList_append, List.map_append]
    rw [PyProof.Rows.signs_ofString] at e2
    rw [e2]
    rfl
def numP (z : Int) : TX := if z < 0 then 45 :: TL.numL z.natAbs else TL.numL z.natAbs
theorem num_Z (z : Int) : Str.ofString (toString z) = SX.S (numP z) := TL.ext_tl (signs_int z)
theorem numL_head : ∀ (n : Nat), 0 < n → ∃ c r, TL.numL n = c :: r ∧ 49 ≤ c ∧ c ≤ 57 := by
  intro n
  induction n using Nat.strongRecOn with
  | ind n ih =>
    intro h0
    by_cases h : n < 10
    · exact ⟨48 + n, [], TL.numL_lt h, by omega, by omega⟩
    · obtain ⟨c, r, e, h1, h2⟩ := ih (n / 10) (by omega) (by omega)
      exact ⟨c, r ++ [48 + n % 10], by rw [TL.numL_step (by omega), e]; rfl, h1, h2⟩
theorem numL_zero : TL.numL 0 = [48] := TL.numL_lt (by omega)
def digs (w : TX) : TX := if w.take 1 = [45] then w.drop 1 else w
def isDg (c : Nat) : Bool := decide (48 ≤ c ∧ c ≤ 57)
def wholeP (w : TX) : Option Int :=
  if 1 ≤ (digs w).length ∧ (digs w).length ≤ 9 ∧ (digs w).all isDg = true ∧ ¬ ((digs w).head? = some 48 ∧ w ≠ [48]) then
    some (if w.take 1 = [45] then -((NumText.digitsVal (digs w) : Nat) : Int) else ((NumText.digitsVal (digs w) : Nat) : Int)) else none
theorem allDg {d : TX} (h : d.all isDg = true) : NumText.AllDigits d := fun c hc => of_decide_eq_true (List.all_eq_true.mp h c hc)
theorem dgAll {d : TX} (h : NumText.AllDigits d) : d.all isDg = true := List.all_eq_true.mpr fun c hc => decide_eq_true (h c hc)
theorem dv_lt : ∀ (d : TX) (a : Nat), NumText.AllDigits d → d.foldl (fun acc c => acc * 10 + (c - 48)) a < (a + 1) * 10 ^ d.length
  | [], a, _ => by simp
  | c :: d, a, h => by
    have hc := h c (List.mem_cons_self ..)
    have := dv_lt d (a * 10 + (c - 48)) fun x hx => h x (List.mem_cons_of_mem _ hx)
    rw [List.foldl_cons, List.length_cons, Nat.pow_succ]
    refine Nat.lt_of_lt_of_le this ?_
    have e : (a + 1) * (10 ^ d.length * 10) = ((a + 1) * 10) * 10 ^ d.length := by rw [Nat.mul_comm (10 ^ d.length) 10, Nat.mul_assoc]
    rw [e]
    exact Nat.mul_le_mul_right _ (by omega)
theorem dv_num {d : TX} (h : NumText.AllDigits d) (h1 : d ≠ []) (h2 : d.head? ≠ some 48 ∨ d = [48]) : TL.numL (NumText.digitsVal d) = d := by
  have e : Nat.toDigits 10 (NumText.digitsVal d) = d.map Char.ofNat := by
    refine NumText.toDigits_digitsVal (d.length - 1) d (by have := List.length_pos_iff.mpr h1; omega) h ?_
    rcases h2 with h2 | h2
    · cases d with
      | nil => exact absurd rfl h1
      | cons c r =>
        have := h c (List.mem_cons_self ..)
        have : c ≠ 48 := fun e => h2 (by rw [e]; rfl)
        exact .inr ⟨c, r, rfl, by omega⟩
    · subst h2; exact .inl rfl
  unfold TL.numL
  rw [e, List.map_map]
  have : ∀ c ∈ d, (Char.toNat ∘ Char.ofNat) c = c := fun c hc => by
    have k : ∀ c : Nat, c < 58 → (Char.ofNat c).toNat = c := by decide
    exact k c (by have := h c hc; omega)
  rw [List.map_congr_left this, List.map_id']
theorem wholeA {w : TX} {n : Int} (h : wholeP w = some n) : numP n = w ∧ n.natAbs < 1000000000 := by
  unfold wholeP at h
  split at h
  case isFalse => cases h
  rename_i hh
  obtain ⟨h1, h2, h3, h4⟩ := hh
  injection h with h
  have hd := allDg h3
  have hn : digs w ≠ [] := List.length_pos_iff.mp h1
  have hb : NumText.digitsVal (digs w) < 1000000000 := by
    have a := dv_lt (digs w) 0 hd
    have b : 10 ^ (digs w).length ≤ 10 ^ 9 := Nat.pow_le_pow_right (by omega) h2
    have : NumText.digitsVal (digs w) < (0 + 1) * 10 ^ (digs w).length := a
    omega
  by_cases hs : w.take 1 = [45]
  · rw [if_pos hs] at h
    have ed : digs w = w.drop 1 := by unfold digs; rw [if_pos hs]
    have ew : w = 45 :: digs w := by rw [ed, ← List.take_append_drop 1 w, hs]; rfl
    have hne : (digs w).head? ≠ some 48 := fun k => h4 ⟨k, fun k2 => by rw [k2] at hs; exact absurd hs (by decide)⟩
    have e := dv_num hd hn (.inl hne)
    have hp : 0 < NumText.digitsVal (digs w) := by
      generalize digs w = d at *
      cases d with
      | nil => exact absurd rfl hn
      | cons c r =>
        have := hd c (List.mem_cons_self ..)
        have : c ≠ 48 := fun e => hne (by rw [e]; rfl)
        exact NumText.digitsVal_pos (by omega)
    refine ⟨?_, by omega⟩
    rw [← h]
    unfold numP
    rw [if_pos (by omega), Int.natAbs_neg, Int.natAbs_natCast, e]
    exact ew.symm
  · rw [if_neg hs] at h
    have ed : digs w = w := by unfold digs; rw [if_neg hs]
    rw [ed] at h hd hn h4 hb
    refine ⟨?_, by omega⟩
    rw [← h]
    unfold numP
    rw [if_neg (by omega), Int.natAbs_natCast]
    refine dv_num hd hn ?_
    by_cases k : w = [48]
    · exact .inr k
    · exact .inl fun k2 => h4 ⟨k2, k⟩
theorem wholeB {n : Int} (h : n.natAbs < 1000000000) : wholeP (numP n) = some n := by
  have hl := TL.numL_len (n := n.natAbs) (k := 9) (by omega) (by omega)
  have hd := TL.numL_digits n.natAbs
  have hn := TL.numL_ne n.natAbs
  have hv := TL.numL_val n.natAbs
  have hp := List.length_pos_iff.mpr hn
  by_cases hs : n < 0
  · have e : numP n = 45 :: TL.numL n.natAbs := by unfold numP; rw [if_pos hs]
    have et : (numP n).take 1 = [45] := by rw [e]; rfl
    have ed : digs (numP n) = TL.numL n.natAbs := by unfold digs; rw [if_pos et, e]; rfl
    obtain ⟨c, r, e1, h1, h2⟩ := numL_head n.natAbs (by omega)
    unfold wholeP
    rw [ed, if_pos ⟨hp, hl, dgAll hd, fun k => by rw [e1] at k; have := k.1; simp at this; omega⟩, if_pos et, hv]
    exact congrArg some (by omega)
  · have e : numP n = TL.numL n.natAbs := by unfold numP; rw [if_neg hs]
    have et : ¬ (numP n).take 1 = [45] := fun k => by
      rw [e] at k
      generalize TL.numL n.natAbs = d at *
      cases d with
      | nil => exact hn rfl
      | cons c r =>
        have := hd c (List.mem_cons_self ..)
        simp at k
        omega
    have ed : digs (numP n) = TL.numL n.natAbs := by unfold digs; rw [if_neg et, e]
    have hk : ¬ ((TL.numL n.natAbs).head? = some 48 ∧ numP n ≠ [48]) := fun k => by
      by_cases h0 : n.natAbs = 0
      · rw [e, h0, numL_zero] at k; exact k.2 rfl
      · obtain ⟨c, r, e1, h1, h2⟩ := numL_head n.natAbs (by omega)
        rw [e1] at k
        have := k.1
        simp at this
        omega
    unfold wholeP
    rw [ed, if_pos ⟨hp, hl, dgAll hd, hk⟩, if_neg et, hv]
    exact congrArg some (by omega)
theorem num_free {n : Int} {c : Nat} (h : c < 45 ∨ (45 < c ∧ c < 48) ∨ 57 < c) : c ∉ numP n := by
  have k := TL.numL_free (n := n.natAbs) (s := c) (by omega)
  unfold numP
  split
  · intro m
    rcases List.mem_cons.mp m with m | m
    · omega
    · exact k m
  · exact k
theorem join_spl (c : Nat) (hc : c < 256) (w : TX) : TL.joinL [c] (TL.spl [c] 0 [] w) = w := by
  have e := PySem.StrLaws.join_split (SX.S w) (SX.S [c])
  rw [SX.split_S (by simp) (by simp; exact hc)] at e
  have e2 := SX.join_S [c] (TL.spl [c] 0 [] w)
  rw [TL.join_eq, e] at e2
  exact (SX.S_inj e2).symm
theorem len_two {α : Type} {l : List α} (h : l.length = 2) : ∃ u v, l = [u, v] := by
  match l, h with
  | [u, v], _ => exact ⟨u, v, rfl⟩
def numM : List (Option Int) → Option (Int × Int)
  | [some n] => some (n, 1)
  | [some p, some q] => if q < 2 ∨ 1 < Nat.gcd p.natAbs q.natAbs then none else some (p, q)
  | _ => none
theorem numM_long {a b c : Option Int} {r : List (Option Int)} : numM (a :: b :: c :: r) = none := by cases a <;> cases b <;> rfl
def numberP (w : TX) : Option (Int × Int) := numM ((TL.spl [47] 0 [] w).map wholeP)
def wordP (p q : Int) : TX := if q = 1 then numP p else numP p ++ 47 :: numP q
theorem numberA {w : TX} {p q : Int} (h : numberP w = some (p, q)) : wordP p q = w ∧ p.natAbs < 1000000000 ∧ 0 < q ∧ q < 1000000000 := by
  have j := join_spl 47 (by decide) w
  unfold numberP numM at h
  generalize TL.spl [47] 0 [] w = ws at *
  split at h
  · rename_i n e
    obtain ⟨u, rfl⟩ : ∃ u, ws = [u] := List.length_eq_one_iff.mp (by have := congrArg List.length e; simpa using this)
    · simp at e
      obtain ⟨a, b⟩ := wholeA e
      injection h with h
      injection h with h1 h2
      subst h1 h2
      unfold wordP
      rw [if_pos rfl, a]
      exact ⟨j, b, by decide, by decide⟩
  · rename_i p' q' e
    obtain ⟨u, v, rfl⟩ : ∃ u v, ws = [u, v] := len_two (by have := congrArg List.length e; simpa using this)
    · simp at e
      obtain ⟨e1, e2⟩ := e
      obtain ⟨a, b⟩ := wholeA e1
      obtain ⟨a2, b2⟩ := wholeA e2
      split at h
      · cases h
      · rename_i hg
        injection h with h
        injection h with h1 h2
        subst h1 h2
        unfold wordP
        rw [if_neg (by omega), a, a2]
        exact ⟨j, b, by omega, by omega⟩
  · cases h
theorem numberB {p q : Int} (hp : p.natAbs < 1000000000) (hq : q < 1000000000) (h0 : 0 < q) (hg : q = 1 ∨ Nat.gcd p.natAbs q.natAbs = 1) : numberP (wordP p q) = some (p, q) := by
  have fr : ∀ n : Int, (47 : Nat) ∉ numP n := fun n => num_free (by omega)
  unfold numberP numM wordP
  by_cases h : q = 1
  · subst h
    rw [if_pos rfl]
    have e := SX.spl_join (c := 47) (sep := []) (parts := [numP p]) (by simp) (by simpa using fr p)
    have e1 : TL.joinL [47] [numP p] = numP p := by simp [TL.joinL]
    rw [e1] at e
    rw [e]
    simp [wholeB hp]
  · rw [if_neg h]
    have e := SX.spl_join (c := 47) (sep := []) (parts := [numP p, numP q]) (by simp) (by simpa using ⟨fr p, fr q⟩)
    have e1 : TL.joinL [47] [numP p, numP q] = numP p ++ 47 :: numP q := by simp [TL.joinL]
    rw [e1] at e
    rw [e]
    rcases hg with hg | hg
    · exact absurd hg h
    · simp [wholeB hp, wholeB (n := q) (by omega), hg]
      omega
theorem word_free {p q : Int} {c : Nat} (h : c < 45 ∨ 57 < c) : c ∉ wordP p q := by
  unfold wordP
  have h1 := num_free (n := p) (c := c) (by omega)
  have h2 := num_free (n := q) (c := c) (by omega)
  split
  · exact h1
  · simp; exact ⟨h1, by omega, h2⟩

/-! ### k75: entries and their lines -/
abbrev planL : TX := [112, 108, 97, 110]
abbrev jointL : TX := [106, 111, 105, 110, 116]
abbrev holdL : TX := [104, 111, 108, 100]
abbrev barL : TX := [98, 97, 114]
abbrev outL : TX := [111, 117, 116]
abbrev dropL : TX := [100, 114, 111, 112]
abbrev doL : TX := [100, 111]
abbrev freeL : TX := [102, 114, 101, 101]
abbrev bothL : TX := [98, 111, 116, 104]
abbrev xL : TX := [120]
abbrev yL : TX := [121]
inductive Ent where
  | drop (n : Int)
  | dos (l : List Int)
  | joint (a : TX) (p q r s : Int)
  | hold (a : TX) (w : Option TX)
  | bar (k a b : TX)
def Ent.words : Ent → List TX
  | .drop n => [dropL, numP n]
  | .dos l => doL :: l.map numP
  | .joint a p q r s => [planL, jointL, a, wordP p q, wordP r s]
  | .hold a w => [planL, holdL, a, w.getD freeL]
  | .bar k a b => [planL, k, a, b]
def Ent.line (e : Ent) : TX := TL.joinL [32] e.words
def isLt (c : Nat) : Bool := decide (97 ≤ c ∧ c ≤ 122)
def nameP (w : TX) : Bool := decide (1 ≤ w.length) && decide (w.length ≤ 12) && (w.head?.any isLt) && w.all fun c => isLt c || isDg c
def incP : List Int → Bool
  | a :: b :: r => decide (a < b) && incP (b :: r)
  | _ => true
def changeP (ws : List TX) : Option Ent :=
  match ws with
  | [k, a, b, c] => if k = jointL ∧ nameP a = true then match numberP b, numberP c with
    | some (p, q), some (r, s) => some (.joint a p q r s)
    | _, _ => none else none
  | [k, a, b] => if nameP a = true then
      if k = holdL ∧ b ∈ [bothL, xL, yL, freeL] then some (.hold a (if b = freeL then none else some b))
      else if (k = barL ∨ k = outL) ∧ nameP b = true ∧ a < b then some (.bar k a b) else none
    else none
  | _ => none
def allSome {α : Type} : List (Option α) → Option (List α)
  | [] => some []
  | none :: _ => none
  | some a :: r => (allSome r).map (a :: ·)
def entW : List TX → Option Ent
  | [] => none
  | w :: ws => if w = planL then changeP ws else match allSome (ws.map wholeP) with
    | none => none
    | some l => if l = [] ∨ l.any (fun n => decide (n < 1)) = true then none
      else if w = dropL ∧ l.length = 1 then l.head?.map .drop
      else if w = doL ∧ incP l = true then some (.dos l) else none
def entP (x : TX) : Option Ent := entW (TL.spl [32] 0 [] x)
theorem allSome_eq {α : Type} : ∀ {l : List (Option α)} {r : List α}, allSome l = some r → l = r.map some
  | [], r, h => by cases h; rfl
  | none :: _, r, h => by cases h
  | some a :: l, r, h => by
    cases e : allSome l with
    | none => unfold allSome at h; rw [e] at h; cases h
    | some r' => unfold allSome at h; rw [e] at h; cases h; rw [allSome_eq e]; rfl
theorem allSome_map {α : Type} : ∀ (r : List α), allSome (r.map some) = some r
  | [] => rfl
  | a :: r => by show (allSome (r.map some)).map (a :: ·) = _; rw [allSome_map r]; rfl
theorem wholes_num : ∀ {ws : List TX} {l : List Int}, ws.map wholeP = l.map some → ws = l.map numP ∧ ∀ n ∈ l, n.natAbs < 1000000000
  | [], [], _ => ⟨rfl, fun _ h => by cases h⟩
  | [], _ :: _, h => by simp at h
  | _ :: _, [], h => by simp at h
  | w :: ws, n :: l, h => by
    rw [List.map_cons, List.map_cons] at h
    injection h with h1 h2
    obtain ⟨a, b⟩ := wholeA h1
    obtain ⟨c, d⟩ := wholes_num h2
    refine ⟨by rw [c, List.map_cons, a], fun m hm => ?_⟩
    rcases List.mem_cons.mp hm with rfl | hm
    · exact b
    · exact d m hm
/-- numbers of an entry that fit -/
def Ent.fit : Ent → Prop
  | .drop n => n.natAbs < 1000000000
  | .dos l => l ≠ [] ∧ ∀ n ∈ l, n.natAbs < 1000000000
  | .joint _ p q r s => p.natAbs < 1000000000 ∧ 0 < q ∧ q < 1000000000 ∧ r.natAbs < 1000000000 ∧ 0 < s ∧ s < 1000000000
  | .hold .. => True
  | .bar k .. => k = barL ∨ k = outL
theorem entWA {ws : List TX} {e : Ent} (h : entW ws = some e) : e.words = ws ∧ e.fit := by
  match ws with
  | [] => cases h
  | w :: ws =>
    unfold entW at h
    dsimp only at h
    by_cases h0 : w = planL
    · rw [if_pos h0] at h
      subst h0
      unfold changeP at h
      split at h
      · rename_i k a b c
        split at h
        · rename_i hk
          split at h
          · rename_i p q r s e1 e2
            cases h
            obtain ⟨u1, u2, u3, u4⟩ := numberA e1
            obtain ⟨v1, v2, v3, v4⟩ := numberA e2
            exact ⟨by rw [hk.1]; simp [Ent.words, u1, v1], u2, u3, u4, v2, v3, v4⟩
          · cases h
        · cases h
      · rename_i k a b
        split at h
        · split at h
          · rename_i hk
            cases h
            refine ⟨?_, trivial⟩
            rw [hk.1]
            by_cases hb : b = freeL
            · subst hb; simp [Ent.words]
            · simp [Ent.words, hb]
          · split at h
            · rename_i hk
              cases h
              exact ⟨rfl, hk.1⟩
            · cases h
        · cases h
      · cases h
    · rw [if_neg h0] at h
      split at h
      · cases h
      · rename_i l e1
        obtain ⟨e2, e3⟩ := wholes_num (allSome_eq e1)
        split at h
        · cases h
        · rename_i hne
          split at h
          · rename_i hd
            obtain ⟨n, rfl⟩ := List.length_eq_one_iff.mp hd.2
            cases h
            exact ⟨by rw [hd.1, e2]; rfl, e3 n (by simp)⟩
          · split at h
            · rename_i hd
              cases h
              exact ⟨by rw [hd.1, e2]; rfl, fun z => hne (.inl z), e3⟩
            · cases h
theorem entA {x : TX} {e : Ent} (h : entP x = some e) : e.line = x ∧ e.fit := by
  obtain ⟨a, b⟩ := entWA h
  refine ⟨?_, b⟩
  unfold Ent.line
  rw [a, join_spl 32 (by decide)]
/-- entries that a plan may hold -/
def Ent.good : Ent → Prop
  | .drop n => 1 ≤ n ∧ n < 1000000000
  | .dos l => l ≠ [] ∧ (∀ n ∈ l, 1 ≤ n ∧ n < 1000000000) ∧ incP l = true
  | .joint a p q r s => nameP a = true ∧ (p.natAbs < 1000000000 ∧ q < 1000000000 ∧ 0 < q ∧ (q = 1 ∨ Nat.gcd p.natAbs q.natAbs = 1)) ∧ (r.natAbs < 1000000000 ∧ s < 1000000000 ∧ 0 < s ∧ (s = 1 ∨ Nat.gcd r.natAbs s.natAbs = 1))
  | .hold a w => nameP a = true ∧ (w = none ∨ w = some bothL ∨ w = some xL ∨ w = some yL)
  | .bar k a b => (k = barL ∨ k = outL) ∧ nameP a = true ∧ nameP b = true ∧ a < b
theorem Ent.good.fit {e : Ent} (h : e.good) : e.fit := by
  cases e with
  | drop n => have := h.1; have := h.2; show n.natAbs < _; omega
  | dos l => exact ⟨h.1, fun n hn => by have := h.2.1 n hn; omega⟩
  | joint a p q r s => exact ⟨h.2.1.1, h.2.1.2.2.1, h.2.1.2.1, h.2.2.1, h.2.2.2.2.1, h.2.2.2.1⟩
  | hold => trivial
  | bar => exact h.1
theorem name_free {a : TX} (h : nameP a = true) : 32 ∉ a := fun m => by
  unfold nameP at h
  rw [Bool.and_eq_true] at h
  have := List.all_eq_true.mp h.2 32 m
  exact absurd this (by decide)
theorem words_free {e : Ent} (h : e.good) : ∀ w ∈ e.words, 32 ∉ w := by
  have nf : ∀ n : Int, (32 : Nat) ∉ numP n := fun n => num_free (by omega)
  have wf : ∀ p q : Int, (32 : Nat) ∉ wordP p q := fun p q => word_free (by omega)
  cases e with
  | drop n => simp [Ent.words]; exact nf n
  | dos l => simp [Ent.words]; exact fun n _ => nf n
  | joint a p q r s => simp [Ent.words]; exact ⟨name_free h.1, wf _ _, wf _ _⟩
  | hold a w =>
    obtain ⟨h1, rfl | rfl | rfl | rfl⟩ := h <;> simp [Ent.words] <;> exact name_free h1
  | bar k a b =>
    obtain ⟨h1, h2, h3, _⟩ := h
    have f2 := name_free h2
    have f3 := name_free h3
    rcases h1 with rfl | rfl <;> simp [Ent.words] <;> exact ⟨f2, f3⟩
theorem entB {e : Ent} (h : e.good) : entP e.line = some e := by
  have hw := words_free h
  have hne : e.words ≠ [] := by cases e <;> simp [Ent.words]
  unfold entP Ent.line
  rw [SX.spl_join (c := 32) (sep := []) hne hw]
  cases e with
  | drop n =>
    have w := wholeB (n := n) (by have := h.1; have := h.2; omega)
    have h1 : ¬ n < 1 := by have := h.1; omega
    simp [Ent.words, entW, w, allSome, h1]
  | dos l =>
    obtain ⟨h1, h2, h3⟩ := h
    have e1 : (l.map numP).map wholeP = l.map some := by
      rw [List.map_map]
      exact List.map_congr_left fun n hn => wholeB (by have := h2 n hn; omega)
    have e2 : l.any (fun n => decide (n < 1)) = false := by
      rw [List.any_eq_false]
      intro n hn
      have := h2 n hn
      simp; omega
    show entW (doL :: l.map numP) = _
    unfold entW
    dsimp only
    rw [if_neg (by decide), e1, allSome_map]
    dsimp only
    rw [e2, if_neg (by simp [h1]), if_neg (by simp), if_pos ⟨rfl, h3⟩]
  | joint a p q r s =>
    obtain ⟨h1, ⟨p1, p2, p3, p4⟩, ⟨r1, r2, r3, r4⟩⟩ := h
    simp [Ent.words, entW, changeP, h1, numberB p1 p2 p3 p4, numberB r1 r2 r3 r4]
  | hold a w =>
    obtain ⟨h1, rfl | rfl | rfl | rfl⟩ := h <;> simp [Ent.words, entW, changeP, h1]
  | bar k a b =>
    obtain ⟨h1, h2, h3, h4⟩ := h
    rcases h1 with rfl | rfl <;> simp [Ent.words, entW, changeP, h2, h3, h4]

/-! ### k75: texts of the program -/
abbrev tx (w : TX) : D := .str (SX.S w)
abbrev sg (c : Nat) : D := .str ⟨#[c]⟩
@[simp] theorem q_do : Str.ofString "do" = SX.S doL := rfl
@[simp] theorem q_drop : Str.ofString "drop" = SX.S dropL := rfl
@[simp] theorem q_plan : Str.ofString "plan" = SX.S planL := rfl
@[simp] theorem q_joint : Str.ofString "joint" = SX.S jointL := rfl
@[simp] theorem q_hold : Str.ofString "hold" = SX.S holdL := rfl
@[simp] theorem q_bar : Str.ofString "bar" = SX.S barL := rfl
@[simp] theorem q_out : Str.ofString "out" = SX.S outL := rfl
@[simp] theorem q_free : Str.ofString "free" = SX.S freeL := rfl
@[simp] theorem q_both : Str.ofString "both" = SX.S bothL := rfl
@[simp] theorem q_x : Str.ofString "x" = SX.S xL := rfl
@[simp] theorem q_y : Str.ofString "y" = SX.S yL := rfl
@[simp] theorem q_sp : Str.ofString " " = SX.S [32] := rfl
@[simp] theorem q_sl : Str.ofString "/" = SX.S [47] := rfl
@[simp] theorem q_mi : Str.ofString "-" = SX.S [45] := rfl
@[simp] theorem q_0 : Str.ofString "0" = SX.S [48] := rfl
@[simp] theorem q_dosp : Str.ofString "do " = SX.S (doL ++ [32]) := rfl
@[simp] theorem q_dropsp : Str.ofString "drop " = SX.S (dropL ++ [32]) := rfl
@[simp] theorem q_plansp : Str.ofString "plan " = SX.S (planL ++ [32]) := rfl
@[simp] theorem q_pjsp : Str.ofString "plan joint " = SX.S (planL ++ 32 :: jointL ++ [32]) := rfl
abbrev dgL : TX := [48, 49, 50, 51, 52, 53, 54, 55, 56, 57]
abbrev ltL : TX := [97, 98, 99, 100, 101, 102, 103, 104, 105, 106, 107, 108, 109, 110, 111, 112, 113, 114, 115, 116, 117, 118, 119, 120, 121, 122]
@[simp] theorem q_dg : Str.ofString "0123456789" = SX.S dgL := rfl
@[simp] theorem q_lt : Str.ofString "abcdefghijklmnopqrstuvwxyz" = SX.S ltL := rfl
theorem mem_dg (c : Nat) : decide (c ∈ dgL) = isDg c := decide_eq_decide.mpr (by simp; omega)
theorem mem_lt (c : Nat) : decide (c ∈ ltL) = isLt c := decide_eq_decide.mpr (by simp; omega)
@[simp] theorem S_eq {a b : TX} : (SX.S a = SX.S b) = (a = b) := propext ⟨SX.S_inj, fun h => by rw [h]⟩
@[simp] theorem dInS_dg {c : Nat} : dInS (sg c) (tx dgL) = some (.F (.bool (isDg c))) := by
  show some (Cell.F (.bool (inS (SX.S [c]) (SX.S dgL)))) = _
  unfold inS
  rw [SX.in_one, mem_dg]
@[simp] theorem dInS_lt {c : Nat} : dInS (sg c) (tx ltL) = some (.F (.bool (isLt c))) := by
  show some (Cell.F (.bool (inS (SX.S [c]) (SX.S ltL)))) = _
  unfold inS
  rw [SX.in_one, mem_lt]
@[simp] theorem dIn_ss {a b : Str} : dIn (.str a) (.str b) = none := rfl
@[simp] theorem dInS_n {d : D} : dInS .none d = none := rfl
@[simp] theorem dInt_s {a : Str} : dInt (.str a) = none := rfl
theorem dSl_to {w : TX} {n : Int} (h : w.length ≤ LIM) (h0 : 0 ≤ n) : dSl (tx w) none (some n) = some (.F (tx (w.take n.toNat))) := by
  show (if (SX.S w).length ≤ LIM then some (Cell.F (.str (L2.cutS (SX.S w) none (some n)))) else none) = _
  rw [SX.S_len, if_pos h, C8.cutS_slice, SX.slice_to h0]
theorem dSl_fr {w : TX} {n : Int} (h : w.length ≤ LIM) (h0 : 0 ≤ n) : dSl (tx w) (some n) none = some (.F (tx (w.drop n.toNat))) := by
  show (if (SX.S w).length ≤ LIM then some (Cell.F (.str (L2.cutS (SX.S w) (some n) none))) else none) = _
  rw [SX.S_len, if_pos h, C8.cutS_slice, SX.slice_from h0]
theorem dLen_tx {w : TX} (h : w.length ≤ LIM) : dLen (tx w) = some (.F (.int w.length)) := by
  rw [dLen_s, SX.S_len, if_pos h]
theorem dIx_tx {w : TX} {n : Int} (h : w.length ≤ LIM) : dIx (tx w) (.int n) = (atI w n).map fun c => .F (sg c) := by
  rw [dIx_s, SX.S_len, if_pos h]
theorem dSplit_tx {w : TX} {c : Nat} (h : w.length + 2 ≤ LIM) (hc : c < 256) : dSplit (tx w) (tx [c]) = some (.O ((TL.spl [c] 0 [] w).map tx)) := by
  show (if (!((SX.S [c]).length == 0) && decide ((SX.S w).length + 2 ≤ LIM)) = true then some (Cell.O ((Txt.split (SX.S w) (SX.S [c])).map .str)) else none) = _
  rw [SX.S_len, SX.S_len, if_pos (by have h' : w.length + 2 ≤ 16777216 := h; simp; omega), SX.split_S (by simp) (by simp; exact hc), List.map_map]
  rfl
theorem dAdd_tx {a b : TX} (h : a.length + b.length ≤ LIM) : dAdd (tx a) (tx b) = some (.F (tx (a ++ b))) := by
  rw [dAdd_s, SX.S_len, SX.S_len, if_pos h, SX.S_cat]
theorem strs_tx : ∀ ws : List TX, G.strs? (ws.map tx) = some (ws.map SX.S)
  | [] => rfl
  | w :: ws => by show (G.strs? (ws.map tx)).map _ = _; rw [strs_tx ws]; rfl
theorem dJoin_tx {c : Nat} {ws : List TX} (h : (ws.map (·.length)).sum + ws.length ≤ LIM) : dJoin (tx [c]) (.list (ws.map tx)) = some (.F (tx (TL.joinL [c] ws))) := by
  show (match (G.strs? (ws.map tx) : Option (List Str)) with
    | some (ys : List Str) => if (ys.map Str.length).sum + ys.length * (SX.S [c]).length ≤ LIM then some (Cell.F (.str (Txt.join (SX.S [c]) ys))) else none
    | none => none) = _
  rw [strs_tx]
  dsimp only
  rw [SX.lens, SX.S_len, List.length_map, if_pos (by simpa using h), SX.join_S]
theorem dAll_map {α : Type} {f : α → Bool} {xs : List α} : dAll (.list (xs.map fun x => .bool (f x))) = some (.F (.bool (xs.all f))) := by
  have e : xs.map (fun x => PyData.bool (f x)) = (xs.map f).map PyData.bool := by rw [List.map_map]; rfl
  rw [e, dAll_bools]
  congr 3
  simp [List.all_map]
theorem chars_S (w : TX) : chars (SX.S w) = w.map sg := rfl
theorem dStr_tx {n : Int} (h : n.natAbs < 1000000000) : dStr (.int n) = some (.F (tx (numP n))) := by
  rw [dStr_i, if_pos ?_, num_Z]
  by_cases h0 : n.natAbs = 0
  · rw [h0]; decide
  · exact (Nat.log2_lt h0).mpr (Nat.lt_of_lt_of_le h (by decide +kernel))

/-! ### k75: the program's readers of words -/
@[simp] theorem eqv_in {n : Int} : PyData.eqv (.int n) .none = false := by simp [PyData.eqv]
@[simp] theorem eqv_ns {a : Str} : PyData.eqv .none (.str a) = false := by simp [PyData.eqv]
@[simp] theorem eqv_sn {a : Str} : PyData.eqv (.str a) .none = false := by simp [PyData.eqv]
theorem is_name_ok {w : TX} (h : w.length ≤ LIM) : c_is_name [.F (tx w)] = some (.F (.bool (nameP w)), none) := by
  have hs0 := sLc_enc (fI := rSq (sVar 0)) (g := gNm 1) (t := bYes) (e := sOrV (sAlt (s2 dIn (sVar 1) (sData (tx ltL))) (s2 dInS (sVar 1) (sData (tx ltL)))) (sAlt (s2 dIn (sVar 1) (sData (tx dgL))) (s2 dInS (sVar 1) (sData (tx dgL))))) (vs := [1]) (Γ := [some (.F (tx w)), none]) (Γ1 := [some (.F (tx w)), none]) sg (fun c => .bool (isLt c || isDg c)) w (by simp [chars_S, seqOf]) (by exact h) (fun c _ => by
    cases hc : isLt c <;> simp [lcS, hc])
  have hs : sLc (rSq (sVar 0)) (gNm 1) bYes (sOrV (sAlt (s2 dIn (sVar 1) (sData (tx ltL))) (s2 dInS (sVar 1) (sData (tx ltL)))) (sAlt (s2 dIn (sVar 1) (sData (tx dgL))) (s2 dInS (sVar 1) (sData (tx dgL))))) [1] [some (.F (tx w)), none] = some (.val (.O (w.map fun c => .bool (isLt c || isDg c))), [some (.F (tx w)), none]) := hs0.trans (by simp)
  by_cases h1 : 1 ≤ w.length
  · have i1 : (1 : Int) ≤ w.length := by omega
    by_cases h2 : w.length ≤ 12
    · have i2 : (w.length : Int) ≤ 12 := by omega
      obtain ⟨c, e0, e1⟩ : ∃ c, w[0]? = some c ∧ w.head? = some c := by
        cases w with
        | nil => simp at h1
        | cons c r => exact ⟨c, rfl, rfl⟩
      have nm : nameP w = (isLt c && w.all fun c => isLt c || isDg c) := by unfold nameP; rw [e1]; simp [h1, h2]
      rw [nm]
      cases hc : isLt c with
      | true => simp [c_is_name, s_is_name, dLen_tx h, dIx_tx h, eq_true i1, eq_true i2, hs, hc, dAll_map, e0]
      | false => simp [c_is_name, s_is_name, dLen_tx h, dIx_tx h, eq_true i1, eq_true i2, hs, hc, dAll_map, e0]
    · have i2 : ¬ (w.length : Int) ≤ 12 := by omega
      have nm : nameP w = false := by unfold nameP; simp [h2]
      rw [nm]
      simp [c_is_name, s_is_name, dLen_tx h, eq_true i1, eq_false i2]
  · have i1 : ¬ (1 : Int) ≤ w.length := by omega
    have nm : nameP w = false := by unfold nameP; simp [h1]
    rw [nm]
    simp [c_is_name, s_is_name, dLen_tx h, eq_false i1]
@[simp] theorem sg_eq {c d : Nat} : ((⟨#[c]⟩ : Str) = SX.S [d]) = (c = d) := by
  have e := S_eq (a := [c]) (b := [d])
  exact e.trans (by simp)
theorem cSeq_rt {f g : SemS} {Γ Γ1 : G.Env} {c : Cell} (h : f Γ = some (.rt c, Γ1)) : cSeq f g Γ = some (.rt c, Γ1) := by rw [cSeq_ap, h]
abbrev wD : Option Int → D
  | some n => .int n
  | none => .none
theorem whole_ok {w : TX} (h : w.length ≤ LIM) : c_whole_in [.F (tx w)] = some (.F (wD (wholeP w)), none) := by
  have hd : (digs w).length ≤ LIM := by
    unfold digs
    split
    · rw [List.length_drop]; have h' : w.length ≤ 16777216 := h; show _ ≤ 16777216; omega
    · exact h
  have hs0 := sLc_enc (fI := rSq (sVar 1)) (g := gNm 2) (t := bYes) (e := sAlt (s2 dIn (sVar 2) (sData (tx dgL))) (s2 dInS (sVar 2) (sData (tx dgL)))) (vs := [2]) (Γ := [some (.F (tx w)), some (.F (tx (digs w))), none]) (Γ1 := [some (.F (tx w)), some (.F (tx (digs w))), none]) sg (fun c => .bool (isDg c)) (digs w) (by simp [chars_S, seqOf]) (by exact hd) (fun c _ => by simp [lcS])
  have hs : sLc (rSq (sVar 1)) (gNm 2) bYes (sAlt (s2 dIn (sVar 2) (sData (tx dgL))) (s2 dInS (sVar 2) (sData (tx dgL)))) [2] [some (.F (tx w)), some (.F (tx (digs w))), none] = some (.val (.O ((digs w).map fun c => .bool (isDg c))), [some (.F (tx w)), some (.F (tx (digs w))), none]) := hs0.trans (by simp)
  have st1 : (cAsg (sIte (asB (s2 dEq (sSl (sVar 0) oNone (oSome (sData (.int 1)))) (sData (.str "-")))) (sSl (sVar 0) (oSome (sData (.int 1))) oNone) (sVar 0)) (gNm 1)) [some (.F (tx w)), none, none] = some (.nx, [some (.F (tx w)), some (.F (tx (digs w))), none]) := by
    unfold digs
    by_cases k : w.take 1 = [45]
    · simp [dSl_to h, dSl_fr h, eq_true k]
    · simp [dSl_to h, dSl_fr h, eq_false k]
  have val : 1 ≤ (digs w).length → (digs w).length ≤ 9 → (digs w).all isDg = true → intText? (SX.S w) = some (if w.take 1 = [45] then -((NumText.digitsVal (digs w) : Nat) : Int) else ((NumText.digitsVal (digs w) : Nat) : Int)) ∧ w.length ≤ 640 := fun a1 a2 a3 => by
    have hn : digs w ≠ [] := List.length_pos_iff.mp a1
    by_cases k : w.take 1 = [45]
    · have ed : digs w = w.drop 1 := by unfold digs; rw [if_pos k]
      have ew : w = 45 :: digs w := by rw [ed, ← List.take_append_drop 1 w, k]; rfl
      have el : w.length ≤ 10 := by rw [ew, List.length_cons]; omega
      rw [if_pos k]
      exact ⟨intText_neg (x := SX.S w) (cs := digs w) ew (allDg a3) hn (by rw [SX.S_len]; omega), by omega⟩
    · have ed : digs w = w := by unfold digs; rw [if_neg k]
      rw [if_neg k]
      rw [ed] at a1 a2 a3 hn ⊢
      exact ⟨intText_digits (x := SX.S w) (allDg a3) hn (by rw [SX.S_len]; omega), by omega⟩
  have run : ∃ Γ, s_whole_in ([Cell.F (tx w)].map some ++ List.replicate (3 - 1) none) = some (.rt (.F (wD (wholeP w))), Γ) := by
    by_cases a1 : 1 ≤ (digs w).length ∧ (digs w).length ≤ 9
    · by_cases a3 : (digs w).all isDg = true
      · obtain ⟨v1, v2⟩ := val a1.1 a1.2 a3
        obtain ⟨c, ec, eh⟩ : ∃ c, (digs w)[0]? = some c ∧ (digs w).head? = some c := by
          have := a1.1
          cases e : digs w with
          | nil => rw [e] at this; simp at this
          | cons c r => exact ⟨c, rfl, rfl⟩
        apply Exists.intro
        refine cSeq_nx st1 ?_
        refine cSeq_nx (by simp [dLen_tx hd, hs, dAll_map, a3, eq_true (show (1 : Int) ≤ (digs w).length by omega), eq_true (show ((digs w).length : Int) ≤ 9 by omega)]; rfl) ?_
        by_cases k0 : (digs w).head? = some 48 ∧ w ≠ [48]
        · have e : wholeP w = none := by unfold wholeP; rw [if_neg (fun z => z.2.2.2 k0)]
          rw [e]
          have : c = 48 := by have := k0.1; rw [eh] at this; simpa using this
          subst this
          exact cSeq_rt (by simp [dIx_tx hd, ec, eq_false k0.2, -dIx_s]; rfl)
        · have e : wholeP w = some (if w.take 1 = [45] then -((NumText.digitsVal (digs w) : Nat) : Int) else ((NumText.digitsVal (digs w) : Nat) : Int)) := by unfold wholeP; rw [if_pos ⟨a1.1, a1.2, a3, k0⟩]
          rw [e]
          refine cSeq_nx (Γ1 := [some (.F (tx w)), some (.F (tx (digs w))), none]) ?_ ?_
          · by_cases kc : c = 48
            · have : w = [48] := Classical.byContradiction fun z => k0 ⟨by rw [eh, kc], z⟩
              subst kc
              simp [dIx_tx hd, ec, eq_true this, -dIx_s]
            · simp [dIx_tx hd, ec, eq_false kc, -dIx_s]
          · refine cSeq_rt ?_
            simp [dIntS, SX.S_len, v1, v2]
      · have e : wholeP w = none := by unfold wholeP; rw [if_neg (fun z => a3 z.2.2.1)]
        rw [e]
        apply Exists.intro
        refine cSeq_nx st1 ?_
        exact cSeq_rt (by simp [dLen_tx hd, hs, dAll_map, a3, eq_true (show (1 : Int) ≤ (digs w).length by omega), eq_true (show ((digs w).length : Int) ≤ 9 by omega)]; rfl)
    · have e : wholeP w = none := by unfold wholeP; rw [if_neg (fun z => a1 ⟨z.1, z.2.1⟩)]
      rw [e]
      apply Exists.intro
      refine cSeq_nx st1 ?_
      by_cases b : 1 ≤ (digs w).length
      · exact cSeq_rt (by simp [dLen_tx hd, eq_true (show (1 : Int) ≤ (digs w).length by omega), eq_false (show ¬ ((digs w).length : Int) ≤ 9 by omega)]; rfl)
      · exact cSeq_rt (by simp [dLen_tx hd, eq_false (show ¬ (1 : Int) ≤ (digs w).length by omega)])
  obtain ⟨Γ, run⟩ := run
  exact cal_rt (by simp) run
/-! Euclid -/
abbrev shB : SemS := (cSeq (cPar 0 1 (aCons (sVar 1) (aCons (s2 dMod (sVar 0) (sVar 1)) aNil))) cNil)
theorem wh_euc : ∀ (k n a b : Nat), b < 2 ^ k → 2 * k + 1 ≤ n → whF (sTru (sVar 1)) shB n [some (.F (.int a)), some (.F (.int b))] = some (.nx, [some (.F (.int (Nat.gcd a b : Nat))), some (.F (.int 0))]) := by
  have stop : ∀ (n a : Nat), 1 ≤ n → whF (sTru (sVar 1)) shB n [some (.F (.int a)), some (.F (.int 0))] = some (.nx, [some (.F (.int (a : Nat))), some (.F (.int 0))]) := fun n a hn => by
    obtain ⟨m, rfl⟩ : ∃ m, n = m + 1 := ⟨n - 1, by omega⟩
    unfold whF
    simp
  have step : ∀ (n a b : Nat), b ≠ 0 → whF (sTru (sVar 1)) shB (n + 1) [some (.F (.int a)), some (.F (.int b))] = whF (sTru (sVar 1)) shB n [some (.F (.int b)), some (.F (.int ((a % b : Nat))))] := fun n a b hb => by
    have h1 : 0 < b := by omega
    have h2 : ((b : Int) != 0) = true := by rw [bne_iff_ne]; omega
    conv => lhs; unfold whF
    simp [hb, h1, h2]
  intro k
  induction k with
  | zero =>
    intro n a b hb hn
    have : b = 0 := by simp at hb; exact hb
    subst this
    rw [Nat.gcd_zero_right]
    exact stop n a (by omega)
  | succ k ih =>
    intro n a b hb hn
    by_cases h0 : b = 0
    · subst h0
      rw [Nat.gcd_zero_right]
      exact stop n a (by omega)
    · obtain ⟨m, rfl⟩ : ∃ m, n = m + 1 + 1 := ⟨n - 2, by omega⟩
      rw [step _ a b h0]
      have g1 : Nat.gcd a b = Nat.gcd b (a % b) := by rw [Nat.gcd_comm, Nat.gcd_rec, Nat.gcd_comm]
      rw [g1]
      have hr : a % b < b := Nat.mod_lt _ (by omega)
      by_cases h1 : a % b = 0
      · rw [h1, Nat.gcd_zero_right]
        exact stop _ b (by omega)
      · rw [step _ b (a % b) h1]
        have g2 : Nat.gcd b (a % b) = Nat.gcd (a % b) (b % (a % b)) := by rw [Nat.gcd_comm, Nat.gcd_rec, Nat.gcd_comm]
        rw [g2]
        refine ih m _ _ ?_ (by omega)
        have hm : b % (a % b) < a % b := Nat.mod_lt _ (by omega)
        have hq : 1 ≤ b / (a % b) := (Nat.one_le_div_iff (by omega)).mpr (by omega)
        have hd := Nat.div_add_mod b (a % b)
        have : a % b ≤ (a % b) * (b / (a % b)) := Nat.le_mul_of_pos_right _ (by omega)
        rw [Nat.pow_succ] at hb
        omega
theorem shares_ok {p q : Int} (h : 0 ≤ q) (hb : q < 1000000000) : c_shares [.F (.int p), .F (.int q)] = some (.F (.bool (decide (1 < Nat.gcd p.natAbs q.natAbs))), none) := by
  have e := wh_euc 30 1000000 p.natAbs q.natAbs (by omega) (by omega)
  have ab : (if p < 0 then -p else p) = ((p.natAbs : Nat) : Int) := by split <;> omega
  have e2 : ((q.natAbs : Nat) : Int) = q := by omega
  rw [e2] at e
  have c1 : decide ((1 : Int) < ((Nat.gcd p.natAbs q.natAbs : Nat) : Int)) = decide (1 < Nat.gcd p.natAbs q.natAbs) := decide_eq_decide.mpr (by omega)
  have run : s_shares ([Cell.F (.int p), .F (.int q)].map some ++ List.replicate (2 - 2) none) = some (.rt (.F (.bool (decide (1 < Nat.gcd p.natAbs q.natAbs)))), [some (.F (.int (Nat.gcd p.natAbs q.natAbs : Nat))), some (.F (.int 0))]) := by
    refine cSeq_nx (by simp [ab]; rfl) ?_
    refine cSeq_nx e ?_
    exact cSeq_rt (by rw [← c1]; simp)
  exact cal_rt (by simp) run
theorem wD_any {l : List TX} : (l.map fun w => wD (wholeP w)).any (fun y => PyData.eqv y .none) = l.any (fun w => (wholeP w).isNone) := by
  rw [List.any_map]
  congr 1
  funext w
  show PyData.eqv (wD (wholeP w)) .none = _
  cases wholeP w <;> simp
theorem wD_dle {l : List TX} {k : Nat} : (l.map fun w => wD (wholeP w)).all (dle k) = true := by
  rw [List.all_map, List.all_eq_true]
  intro w _
  show dle k (wD (wholeP w)) = true
  cases wholeP w <;> simp
theorem dIn_wD {l : List TX} : dIn .none (.list (l.map fun w => wD (wholeP w))) = some (.F (.bool (l.any fun w => (wholeP w).isNone))) := by
  rw [dIn_l, wD_dle, wD_any]
  simp
def nD : Option (Int × Int) → D
  | some (p, q) => .tuple [.int p, .int q]
  | none => .none
theorem spl_len {w : TX} {c : Nat} (hc : c < 256) (p : TX) (hp : p ∈ TL.spl [c] 0 [] w) : p.length ≤ w.length := by
  have e := join_spl c hc w
  generalize TL.spl [c] 0 [] w = ws at *
  subst e
  clear hc
  induction ws with
  | nil => cases hp
  | cons u ws ih =>
    cases ws with
    | nil => simp at hp; subst hp; simp [TL.joinL]
    | cons v ws =>
      have e : TL.joinL [c] (u :: v :: ws) = u ++ ([c] ++ TL.joinL [c] (v :: ws)) := rfl
      rw [e, List.length_append, List.length_append]
      rcases List.mem_cons.mp hp with rfl | hp
      · omega
      · have := ih hp; omega
theorem spl_cnt {w : TX} {c : Nat} (hc : c < 256) : (TL.spl [c] 0 [] w).length ≤ w.length + 1 := by
  have e := join_spl c hc w
  generalize TL.spl [c] 0 [] w = ws at *
  subst e
  clear hc
  induction ws with
  | nil => simp
  | cons u ws ih =>
    cases ws with
    | nil => simp
    | cons v ws =>
      have e : TL.joinL [c] (u :: v :: ws) = u ++ ([c] ++ TL.joinL [c] (v :: ws)) := rfl
      rw [e, List.length_append, List.length_append, List.length_cons]
      simp only [List.length_cons, List.length_nil] at *
      omega
theorem spl_ne {w : TX} {c : Nat} (hc : c < 256) : TL.spl [c] 0 [] w ≠ [] := fun e => by
  have j := join_spl c hc w
  rw [e] at j
  have : w = [] := j.symm
  subst this
  rw [TL.spl_nil] at e
  cases e
theorem number_ok {w : TX} (h : w.length + 2 ≤ LIM) : c_number_in [.F (tx w)] = some (.F (nD (numberP w)), none) := by
  have h' : w.length + 2 ≤ 16777216 := h
  have hw : ∀ u ∈ TL.spl [47] 0 [] w, u.length ≤ LIM := fun u hu => Nat.le_trans (spl_len (by decide) u hu) (Nat.le_trans (Nat.le_add_right _ 2) h)
  have hcnt : (TL.spl [47] 0 [] w).length ≤ 16777216 := Nat.le_trans (spl_cnt (by decide)) (by omega)
  have sp := dSplit_tx (c := 47) h (by decide)
  have hne := spl_ne (w := w) (c := 47) (by decide)
  unfold numberP
  generalize TL.spl [47] 0 [] w = ws at *
  have hs0 := sLc_encS (fI := rSq (sVar 1)) (g := gNm 3) (t := bYes) (e := sCall c_whole_in [.lk] (iCons .lk (sVar 3) iNil)) (vs := [3]) (Γ := [some (.F (tx w)), some (.O (ws.map tx)), none, none]) (Γ1 := [some (.F (tx w)), some (.O (ws.map tx)), none, none]) (i := 1) tx (fun u => wD (wholeP u)) ws (by simp) (by simp) hcnt (by simp) (fun u hu => by
    have e := whole_ok (hw u hu)
    simp [lcS, e])
  have hs : sLc (rSq (sVar 1)) (gNm 3) bYes (sCall c_whole_in [.lk] (iCons .lk (sVar 3) iNil)) [3] [some (.F (tx w)), some (.O (ws.map tx)), none, none] = some (.val (.O (ws.map fun u => wD (wholeP u))), [some (.F (tx w)), some (.O (ws.map tx)), none, none]) := hs0.trans (by simp)
  have run : ∃ Γ, s_number_in ([Cell.F (tx w)].map some ++ List.replicate (4 - 1) none) = some (.rt (.F (nD (numM (ws.map wholeP)))), Γ) := by
    apply Exists.intro
    refine cSeq_nx (by simp [sp]; rfl) ?_
    refine cSeq_nx (by simp [hs]; rfl) ?_
    by_cases k1 : ws.any (fun u => (wholeP u).isNone) = true
    · have e : numM (ws.map wholeP) = none := by
        unfold numM
        split
        · rename_i n e
          obtain ⟨u, rfl⟩ : ∃ u, ws = [u] := List.length_eq_one_iff.mp (by have := congrArg List.length e; simpa using this)
          simp at e
          simp [e] at k1
        · rename_i p q e
          obtain ⟨u, v, rfl⟩ : ∃ u v, ws = [u, v] := len_two (by have := congrArg List.length e; simpa using this)
          simp at e
          simp [e] at k1
        · rfl
      rw [e]
      exact cSeq_rt (by simp [dIn_wD, k1, nD, -dIn_l] <;> rfl)
    · have k2 : ws.any (fun u => (wholeP u).isNone) = false := by simpa using k1
      match ws, hne with
      | [u], _ =>
        cases e : wholeP u with
        | none => simp [e] at k1
        | some n =>
          refine cSeq_nx (by simp [dIn_wD, k2, e, -dIn_l] <;> rfl) ?_
          exact cSeq_rt (by simp [e, numM, nD] <;> rfl)
      | [u, v], _ =>
        cases e : wholeP u with
        | none => simp [e] at k1
        | some n =>
          cases e2 : wholeP v with
          | none => simp [e2] at k1
          | some q =>
            have hb := (wholeA e2).2
            refine cSeq_nx (by simp [dIn_wD, k2, e, e2, -dIn_l] <;> rfl) ?_
            refine cSeq_nx (by simp [e, e2] <;> rfl) ?_
            by_cases q2 : q < 2
            · exact cSeq_rt (by simp [e, e2, eq_true q2, numM, nD] <;> rfl)
            · have sh := shares_ok (p := n) (q := q) (by omega) (by omega)
              by_cases g : 1 < Nat.gcd n.natAbs q.natAbs
              · exact cSeq_rt (by simp [e, e2, eq_false q2, eq_true g, sh, numM, nD] <;> rfl)
              · refine cSeq_nx (by simp [e, e2, eq_false q2, eq_false g, sh] <;> rfl) ?_
                exact cSeq_rt (by simp [e, e2, eq_false q2, eq_false g, numM, nD] <;> rfl)
      | u :: v :: t :: r, _ =>
        have lg : (2 : Int) < (r.length : Int) + 1 + 1 + 1 := by omega
        rw [show numM ((u :: v :: t :: r).map wholeP) = none from numM_long]
        exact cSeq_rt (by simp [dIn_wD, k2, eq_true lg, nD, -dIn_l, -List.map_cons, -List.any_cons] <;> rfl)
  obtain ⟨Γ, run⟩ := run
  exact cal_rt (by simp) run

/-! ### k75: the program's readers of lines -/
def Ent.chg : Ent → D
  | .joint a p q r s => .tuple [tx jointL, tx a, .tuple [.tuple [.int p, .int q], .tuple [.int r, .int s]]]
  | .hold a w => .tuple [tx holdL, tx a, match w with | some w => tx w | none => .none]
  | .bar k a b => .tuple [tx k, tx a, tx b]
  | _ => .none
def Ent.D : Ent → G.D
  | .drop n => .tuple [tx dropL, .int n]
  | .dos l => .tuple [tx doL, .tuple (l.map .int)]
  | e => .tuple [tx planL, e.chg]
def oD (f : Ent → G.D) : Option Ent → G.D
  | some e => f e
  | none => .none
theorem change_ok {ws : List TX} (h : ∀ w ∈ ws, w.length + 2 ≤ LIM) : c_change_in [.K (ws.map tx)] = some (.F (oD Ent.chg (changeP ws)), none) := by
  have hl : ∀ w ∈ ws, w.length ≤ LIM := fun w hw => Nat.le_trans (Nat.le_add_right _ 2) (h w hw)
  have run : ∃ Γ, s_change_in ([Cell.K (ws.map tx)].map some ++ List.replicate (2 - 1) none) = some (.rt (.F (oD Ent.chg (changeP ws))), Γ) := by
    match ws with
    | [k, a, b, c] =>
      have na := is_name_ok (w := a) (hl a (by simp))
      have nb := number_ok (w := b) (h b (by simp))
      have nc := number_ok (w := c) (h c (by simp))
      by_cases h1 : k = jointL ∧ nameP a = true
      · obtain ⟨rfl, h2⟩ := h1
        cases e1 : numberP b with
        | none =>
          cases e2 : numberP c with
          | none => exact ⟨_, cSeq_rt (by simp [na, nb, nc, h2, e1, e2, nD, changeP, oD] <;> rfl)⟩
          | some rs => exact ⟨_, cSeq_rt (by simp [na, nb, nc, h2, e1, e2, nD, changeP, oD] <;> rfl)⟩
        | some pq =>
          cases e2 : numberP c with
          | none => exact ⟨_, cSeq_rt (by simp [na, nb, nc, h2, e1, e2, nD, changeP, oD] <;> rfl)⟩
          | some rs => exact ⟨_, cSeq_rt (by simp [na, nb, nc, h2, e1, e2, nD, changeP, oD, Ent.chg] <;> rfl)⟩
      · have e : changeP [k, a, b, c] = none := by unfold changeP; simp only [if_neg h1]
        rw [e]
        by_cases hk : k = jointL
        · have h2 : nameP a = false := by cases q : nameP a with
            | false => rfl
            | true => exact absurd ⟨hk, q⟩ h1
          subst hk
          exact ⟨_, cSeq_nx (by simp [na, h2] <;> rfl) (cSeq_rt (by simp [oD] <;> rfl))⟩
        · exact ⟨_, cSeq_nx (by simp [eq_false hk] <;> rfl) (cSeq_rt (by simp [oD] <;> rfl))⟩
    | [k, a, b] =>
      have na := is_name_ok (w := a) (hl a (by simp))
      have nb := is_name_ok (w := b) (hl b (by simp))
      suffices z : ∃ Γ, (cSeq _ _) [some (.K ([k, a, b].map tx)), none] = some (.rt (.F (oD Ent.chg (changeP [k, a, b]))), Γ) from ⟨z.choose, cSeq_nx (by simp <;> rfl) z.choose_spec⟩
      cases h2 : nameP a with
      | false =>
        exact ⟨_, cSeq_rt (by simp [na, h2, changeP, oD] <;> rfl)⟩
      | true =>
        suffices z : ∃ Γ, (cSeq _ _) [some (.K ([k, a, b].map tx)), none] = some (.rt (.F (oD Ent.chg (changeP [k, a, b]))), Γ) from ⟨z.choose, cSeq_nx (by simp [na, h2] <;> rfl) z.choose_spec⟩
        by_cases h3 : k = holdL ∧ b ∈ [bothL, xL, yL, freeL]
        · obtain ⟨rfl, hb⟩ := h3
          simp only [List.mem_cons, List.not_mem_nil, or_false] at hb
          rcases hb with rfl | rfl | rfl | rfl
          · exact ⟨_, cSeq_rt (by simp [changeP, h2, oD, Ent.chg] <;> rfl)⟩
          · exact ⟨_, cSeq_rt (by simp [changeP, h2, oD, Ent.chg] <;> rfl)⟩
          · exact ⟨_, cSeq_rt (by simp [changeP, h2, oD, Ent.chg] <;> rfl)⟩
          · exact ⟨_, cSeq_rt (by simp [changeP, h2, oD, Ent.chg] <;> rfl)⟩
        · have e : changeP [k, a, b] = if (k = barL ∨ k = outL) ∧ nameP b = true ∧ a < b then some (.bar k a b) else none := by
            unfold changeP; simp only [if_pos h2, if_neg h3]
          rw [e]
          refine ⟨[some (.K ([k, a, b].map tx)), none], cSeq_nx (Γ1 := [some (.K ([k, a, b].map tx)), none]) ?_ ?_⟩
          · by_cases hk : k = holdL
            · subst hk
              have hb : b ∉ [bothL, xL, yL, freeL] := fun z => h3 ⟨rfl, z⟩
              simp only [List.mem_cons, List.not_mem_nil, or_false, not_or] at hb
              simp [eq_false (Ne.symm hb.1), eq_false (Ne.symm hb.2.1), eq_false (Ne.symm hb.2.2.1), eq_false (Ne.symm hb.2.2.2)]
            · simp [eq_false hk]
          · by_cases hk : k = barL ∨ k = outL
            · cases h4 : nameP b with
              | false =>
                refine cSeq_nx ?_ (cSeq_rt (by simp [oD] <;> rfl)) <;> rcases hk with rfl | rfl <;> simp [nb, h4] <;> rfl
              | true =>
                by_cases h5 : a < b
                · rcases hk with rfl | rfl <;> exact cSeq_rt (by simp [nb, h4, eq_true h5, oD, Ent.chg] <;> rfl)
                · rcases hk with rfl | rfl <;> exact cSeq_nx (by simp [nb, h4, eq_false h5] <;> rfl) (cSeq_rt (by simp [oD, eq_false h5] <;> rfl))
            · refine cSeq_nx (Γ1 := [some (.K ([k, a, b].map tx)), none]) ?_ (cSeq_rt (by simp [oD, eq_false hk] <;> rfl))
              have hk1 : ¬ barL = k := fun z => hk (.inl z.symm)
              have hk2 : ¬ outL = k := fun z => hk (.inr z.symm)
              simp [eq_false hk1, eq_false hk2]
    | [] => exact ⟨_, cSeq_nx (by simp <;> rfl) (cSeq_rt (by simp [oD, changeP] <;> rfl))⟩
    | [k] => exact ⟨_, cSeq_nx (by simp <;> rfl) (cSeq_rt (by simp [oD, changeP] <;> rfl))⟩
    | [k, a] => exact ⟨_, cSeq_nx (by simp <;> rfl) (cSeq_rt (by simp [oD, changeP] <;> rfl))⟩
    | k :: a :: b :: c :: d :: r =>
      have l1 : ¬ ((r.length : Int) + 1 + 1 + 1 + 1 + 1 = 4) := by omega
      have l2 : ¬ ((r.length : Int) + 1 + 1 + 1 + 1 + 1 = 3) := by omega
      exact ⟨_, cSeq_nx (by simp [eq_false l1] <;> rfl) (cSeq_rt (by simp [oD, changeP, eq_false l2] <;> rfl))⟩
  obtain ⟨Γ, run⟩ := run
  exact cal_rt (by simp) run

/-! ### k75: entry_of -/
theorem changeP_D {ws : List TX} {e : Ent} (h : changeP ws = some e) : e.D = .tuple [tx planL, e.chg] ∧ isNone e.chg = false := by
  unfold changeP at h
  split at h
  · split at h
    · split at h
      · cases h; exact ⟨rfl, rfl⟩
      · cases h
    · cases h
  · split at h
    · split at h
      · cases h; exact ⟨rfl, rfl⟩
      · split at h
        · cases h; exact ⟨rfl, rfl⟩
        · cases h
    · cases h
  · cases h
theorem no_none : ∀ {ws : List TX}, ws.any (fun u => (wholeP u).isNone) = false → ∃ l : List Int, ws.map wholeP = l.map some ∧ (ws.map fun u => wD (wholeP u)) = l.map .int
  | [], _ => ⟨[], rfl, rfl⟩
  | w :: ws, h => by
    rw [List.any_cons, Bool.or_eq_false_iff] at h
    obtain ⟨l, e1, e2⟩ := no_none h.2
    cases e : wholeP w with
    | none => rw [e] at h; cases h.1
    | some n => exact ⟨n :: l, by rw [List.map_cons, e1, e]; rfl, by rw [List.map_cons, e2, e]; rfl⟩
theorem has_none : ∀ {ws : List TX}, ws.any (fun u => (wholeP u).isNone) = true → allSome (ws.map wholeP) = none
  | [], h => by cases h
  | w :: ws, h => by
    rw [List.map_cons]
    cases e : wholeP w with
    | none => rfl
    | some n =>
      rw [List.any_cons, e] at h
      have := has_none (ws := ws) (by simpa using h)
      show (allSome (ws.map wholeP)).map (n :: ·) = none
      rw [this]
      rfl
theorem incP_range : ∀ (l : List Int), (List.range (l.length - 1)).all (fun k => decide (l.getD k 0 < l.getD (k + 1) 0)) = incP l
  | [] => rfl
  | [_] => rfl
  | a :: b :: r => by
    have ih := incP_range (b :: r)
    show (List.range ((b :: r).length - 1 + 1)).all _ = (decide (a < b) && incP (b :: r))
    rw [List.range_succ_eq_map, List.all_cons, List.all_map, ← ih]
    rfl
theorem all_inc {l : List Int} : dAll (.list ((List.range (l.length - 1)).map fun j : Nat => .bool (decide (l.getD ((1 : Int) + j - 1).toNat 0 < l.getD ((1 : Int) + j).toNat 0)))) = some (.F (.bool (incP l))) := by
  rw [dAll_map, ← incP_range]
  congr 4
  funext k
  rw [show ((1 : Int) + k - 1).toNat = k by omega, show ((1 : Int) + k).toNat = k + 1 by omega]
theorem atI_ints {l : List Int} {i : Int} (h0 : 0 ≤ i) (h : i < l.length) : atI (l.map PyData.int) i = some (.int (l.getD i.toNat 0)) := by
  obtain ⟨k, rfl⟩ := Int.eq_ofNat_of_zero_le h0
  have hk : k < l.length := by omega
  rw [atI_n, List.getElem?_map, List.getElem?_eq_getElem hk]
  simp [List.getD, hk]
theorem dMin_ints {l : List Int} (h : l ≠ []) : dMin (.list (l.map .int)) = some (.F (.int (minL l))) := by
  show (match ints? (l.map PyData.int) with
    | some [] => none
    | some ns => some (Cell.F (.int (minL ns)))
    | none => none) = _
  rw [G.ints_map]
  cases l with
  | nil => exact absurd rfl h
  | cons a l => rfl
theorem minL_lt {l : List Int} (h : l ≠ []) : decide (minL l < 1) = l.any (fun n => decide (n < 1)) := by
  obtain ⟨h1, h2⟩ := minL_spec h
  cases q : l.any (fun n => decide (n < 1)) with
  | true =>
    rw [List.any_eq_true] at q
    obtain ⟨x, hx, k⟩ := q
    have := h2 x hx
    have := of_decide_eq_true k
    exact decide_eq_true (by omega)
  | false =>
    rw [List.any_eq_false] at q
    have := q _ h1
    simpa using this
theorem entry_ok {x : TX} (h : x.length ≤ 2000000) : c_entry_of [.F (tx x)] = some (.F (oD Ent.D (entP x)), none) := by
  have h' : x.length + 2 ≤ LIM := by show _ ≤ 16777216; omega
  have hw : ∀ u ∈ TL.spl [32] 0 [] x, u.length + 2 ≤ LIM := fun u hu => by have := spl_len (by decide) u hu; show _ ≤ 16777216; omega
  have hcnt : (TL.spl [32] 0 [] x).length ≤ 2000001 := Nat.le_trans (spl_cnt (by decide)) (by omega)
  have sp := dSplit_tx (c := 32) h' (by decide)
  have hne := spl_ne (w := x) (c := 32) (by decide)
  have run : ∃ Γ, s_entry_of ([Cell.F (tx x)].map some ++ List.replicate (6 - 1) none) = some (.rt (.F (oD Ent.D (entP x))), Γ) := by
    unfold entP
    generalize TL.spl [32] 0 [] x = ws at *
    match ws, hne with
    | w :: ws, _ =>
    suffices z : ∃ Γ, (cSeq _ _) [some (.F (tx x)), some (.O ((w :: ws).map tx)), none, none, none, none] = some (.rt (.F (oD Ent.D (entW (w :: ws)))), Γ) from ⟨z.choose, cSeq_nx (by simp [sp] <;> rfl) z.choose_spec⟩
    by_cases h0 : w = planL
    · subst h0
      have e : entW (planL :: ws) = changeP ws := by unfold entW; simp only [if_true]
      rw [e]
      have c := change_ok (ws := ws) fun u hu => hw u (List.mem_cons_of_mem _ hu)
      cases q : changeP ws with
      | none => 
        rw [q] at c
        exact ⟨_, cSeq_rt (by simp [c, oD] <;> rfl)⟩
      | some en =>
        rw [q] at c
        obtain ⟨d1, d2⟩ := changeP_D q
        exact ⟨_, cSeq_rt (by simp [c, oD, d1, d2] <;> rfl)⟩
    · suffices z : ∃ Γ, (cSeq _ _) [some (.F (tx x)), some (.O ((w :: ws).map tx)), none, none, none, none] = some (.rt (.F (oD Ent.D (entW (w :: ws)))), Γ) from ⟨z.choose, cSeq_nx (by simp [eq_false h0] <;> rfl) z.choose_spec⟩
      have e : entW (w :: ws) = match allSome (ws.map wholeP) with
        | none => none
        | some l => if l = [] ∨ l.any (fun n => decide (n < 1)) = true then none
          else if w = dropL ∧ l.length = 1 then l.head?.map .drop
          else if w = doL ∧ incP l = true then some (.dos l) else none := by unfold entW; simp only [if_neg h0] <;> rfl
      rw [e]
      have hs0 := sLc_enc (fI := rSq (sSl (sVar 1) (oSome (sData (.int 1))) oNone)) (g := gNm 4) (t := bYes) (e := sCall c_whole_in [.lk] (iCons .lk (sVar 4) iNil)) (vs := [4]) (Γ := [some (.F (tx x)), some (.O ((w :: ws).map tx)), none, none, none, none]) (Γ1 := [some (.F (tx x)), some (.O ((w :: ws).map tx)), none, none, none, none]) tx (fun u => wD (wholeP u)) ws (by simp) (by rw [List.length_cons] at hcnt; omega) (fun u hu => by
        have e := whole_ok (w := u) (Nat.le_trans (Nat.le_add_right _ 2) (hw u (List.mem_cons_of_mem _ hu)))
        simp [lcS, e])
      have hs : sLc (rSq (sSl (sVar 1) (oSome (sData (.int 1))) oNone)) (gNm 4) bYes (sCall c_whole_in [.lk] (iCons .lk (sVar 4) iNil)) [4] [some (.F (tx x)), some (.O ((w :: ws).map tx)), none, none, none, none] = some (.val (.O (ws.map fun u => wD (wholeP u))), [some (.F (tx x)), some (.O ((w :: ws).map tx)), none, none, none, none]) := hs0.trans (by simp)
      suffices z : ∃ Γ, (cSeq _ _) [some (.F (tx x)), some (.O ((w :: ws).map tx)), some (.O (ws.map fun u => wD (wholeP u))), none, none, none] = some (.rt (.F (oD Ent.D (match allSome (ws.map wholeP) with
        | none => none
        | some l => if l = [] ∨ l.any (fun n => decide (n < 1)) = true then none
          else if w = dropL ∧ l.length = 1 then l.head?.map .drop
          else if w = doL ∧ incP l = true then some (.dos l) else none))), Γ) from ⟨z.choose, cSeq_nx (by rw [cAsg_ap, hs]; simp <;> rfl) z.choose_spec⟩
      cases k1 : ws.any (fun u => (wholeP u).isNone) with
      | true =>
        rw [has_none k1]
        exact ⟨_, cSeq_rt (by simp [dIn_wD, k1, oD, -dIn_l, -List.map_cons] <;> rfl)⟩
      | false =>
        obtain ⟨l, e1, e2⟩ := no_none k1
        have di := dIn_wD (l := ws)
        rw [k1] at di
        rw [e1, allSome_map]
        rw [e2] at di ⊢
        have hl : l.length ≤ 2000001 := by have := congrArg List.length e1; simp at this; rw [List.length_cons] at hcnt; omega
        dsimp only
        by_cases k2 : l = []
        · subst k2
          exact ⟨_, cSeq_rt (by simp [oD] <;> rfl)⟩
        · have ie : (l.map PyData.int).isEmpty = false := by cases l with
            | nil => exact absurd rfl k2
            | cons a r => rfl
          have mn := dMin_ints k2
          have ml := minL_lt k2
          cases k3 : l.any (fun n => decide (n < 1)) with
          | true =>
            rw [k3] at ml
            exact ⟨_, cSeq_rt (by simp [di, ie, mn, ml, oD, -dIn_l, -List.map_cons] <;> rfl)⟩
          | false =>
            rw [k3] at ml
            rw [if_neg (by simp [k2])]
            suffices z : ∃ Γ, (cSeq _ _) [some (.F (tx x)), some (.O ((w :: ws).map tx)), some (.O (l.map .int)), none, none, none] = some (.rt (.F (oD Ent.D (if w = dropL ∧ l.length = 1 then l.head?.map .drop else if w = doL ∧ incP l = true then some (.dos l) else none))), Γ) from ⟨z.choose, cSeq_nx (by simp [di, ie, mn, ml, -dIn_l, -List.map_cons] <;> rfl) z.choose_spec⟩
            by_cases k4 : w = dropL ∧ l.length = 1
            · obtain ⟨rfl, k5⟩ := k4
              obtain ⟨n, rfl⟩ := List.length_eq_one_iff.mp k5
              exact ⟨_, cSeq_rt (by simp [oD, Ent.D] <;> rfl)⟩
            · rw [if_neg k4]
              suffices z : ∃ Γ, (cSeq _ _) [some (.F (tx x)), some (.O ((w :: ws).map tx)), some (.O (l.map .int)), none, none, none] = some (.rt (.F (oD Ent.D (if w = doL ∧ incP l = true then some (.dos l) else none))), Γ) from ⟨z.choose, cSeq_nx (by
                by_cases k5 : w = dropL
                · subst k5
                  have k6 : ¬ ((l.length : Int) = 1) := fun z => k4 ⟨rfl, by omega⟩
                  simp [eq_false k6] <;> rfl
                · simp [eq_false k5] <;> rfl) z.choose_spec⟩
              by_cases k6 : w = doL
              · subst k6
                have hr1 : rgOk 1 = true := by decide
                have hr : rgOk (l.length : Int) = true := by unfold rgOk; simp; omega
                have lc := lcR_map (g := gNm 5) (t := bYes) (e := s2 dLt (s2 dIx (sVar 2) (s2 dSub (sVar 5) (sData (.int 1)))) (s2 dIx (sVar 2) (sVar 5))) (vs := [5]) (Γ := [some (.F (tx x)), some (.O ((doL :: ws).map tx)), some (.O (l.map .int)), none, none, none]) (h := fun i => .bool (decide (l.getD (i - 1).toNat 0 < l.getD i.toNat 0))) (l.length - 1) 1 (fun i h1 h2 => by
                  have a1 := atI_ints (l := l) (i := i) (by omega) (by omega)
                  have a2 := atI_ints (l := l) (i := i - 1) (by omega) (by omega)
                  exact ⟨_, _, _, _, _, rfl, rfl, by simp [a1, a2]; exact ⟨rfl, rfl⟩, by simp <;> rfl, by simp⟩)
                have ls0 := sLc_rg (fI := rRg2 (aCons (sData (.int 1)) (aCons (s1 dLen (sVar 2)) aNil))) (Γ := [some (.F (tx x)), some (.O ((doL :: ws).map tx)), some (.O (l.map .int)), none, none, none]) (Γ1 := [some (.F (tx x)), some (.O ((doL :: ws).map tx)), some (.O (l.map .int)), none, none, none]) (lo := 1) (c := 1) (n := l.length - 1) (by simp [hr, hr1, -List.map_cons] <;> omega) (by show _ ≤ 16777216; omega) lc
                have ls : sLc (rRg2 (aCons (sData (.int 1)) (aCons (s1 dLen (sVar 2)) aNil))) (gNm 5) bYes (s2 dLt (s2 dIx (sVar 2) (s2 dSub (sVar 5) (sData (.int 1)))) (s2 dIx (sVar 2) (sVar 5))) [5] [some (.F (tx x)), some (.O ((doL :: ws).map tx)), some (.O (l.map .int)), none, none, none] = some (.val (.O ((List.range (l.length - 1)).map fun j : Nat => .bool (decide (l.getD ((1 : Int) + j - 1).toNat 0 < l.getD ((1 : Int) + j).toNat 0)))), [some (.F (tx x)), some (.O ((doL :: ws).map tx)), some (.O (l.map .int)), none, none, none]) := ls0.trans (by simp)
                have ai := all_inc (l := l)
                have st : sTru (s1 dAll (sLc (rRg2 (aCons (sData (.int 1)) (aCons (s1 dLen (sVar 2)) aNil))) (gNm 5) bYes (s2 dLt (s2 dIx (sVar 2) (s2 dSub (sVar 5) (sData (.int 1)))) (s2 dIx (sVar 2) (sVar 5))) [5])) [some (.F (tx x)), some (.O ((doL :: ws).map tx)), some (.O (l.map .int)), none, none, none] = some (incP l, [some (.F (tx x)), some (.O ((doL :: ws).map tx)), some (.O (l.map .int)), none, none, none]) := by
                  rw [sTru_ap, s1_ap, ls]
                  dsimp only
                  rw [pv_val, cpv_O]
                  dsimp only
                  rw [ai]
                  rfl
                have t1 : asB (s2 dEq (s2 dIx (sVar 1) (sData (.int 0))) (sData (.str "do"))) [some (.F (tx x)), some (.O ((doL :: ws).map tx)), some (.O (l.map .int)), none, none, none] = some (true, [some (.F (tx x)), some (.O ((doL :: ws).map tx)), some (.O (l.map .int)), none, none, none]) := by simp
                cases k7 : incP l with
                | true =>
                  rw [k7] at st
                  exact ⟨_, cSeq_rt (cIf_t (by rw [sAndB_ap, t1]; exact st) (by simp [oD, Ent.D] <;> rfl))⟩
                | false =>
                  rw [k7] at st
                  exact ⟨_, cSeq_nx (cIf_f (by rw [sAndB_ap, t1]; exact st) rfl) (cSeq_rt (by simp [oD] <;> rfl))⟩
              · exact ⟨_, cSeq_nx (by simp [eq_false k6] <;> rfl) (cSeq_rt (by simp [oD, eq_false k6] <;> rfl))⟩
  obtain ⟨Γ, run⟩ := run
  exact cal_rt (by simp) run

/-! ### k75: lines of entries -/
theorem join_in (c : Nat) : ∀ {ws : List TX} {p : TX}, p ∈ ws → p.length ≤ (TL.joinL [c] ws).length
  | [], _, h => by cases h
  | [u], p, h => by simp at h; subst h; simp [TL.joinL]
  | u :: v :: ws, p, h => by
    have e : TL.joinL [c] (u :: v :: ws) = u ++ ([c] ++ TL.joinL [c] (v :: ws)) := rfl
    rw [e, List.length_append, List.length_append]
    rcases List.mem_cons.mp h with rfl | h
    · omega
    · have := join_in c h; omega
theorem join_sum (c : Nat) : ∀ (ws : List TX), (ws.map (·.length)).sum + ws.length ≤ (TL.joinL [c] ws).length + 1
  | [] => by simp
  | [u] => by simp [TL.joinL]
  | u :: v :: ws => by
    have e : TL.joinL [c] (u :: v :: ws) = u ++ ([c] ++ TL.joinL [c] (v :: ws)) := rfl
    have ih := join_sum c (v :: ws)
    rw [e, List.length_append, List.length_append, List.map_cons, List.sum_cons, List.length_cons]
    simp only [List.length_cons, List.length_nil] at *
    omega
theorem dJoin_ok {ws : List TX} (h : (TL.joinL [32] ws).length ≤ 1000000) : dJoin (tx [32]) (.list (ws.map tx)) = some (.F (tx (TL.joinL [32] ws))) := dJoin_tx (by
  have := join_sum 32 ws
  show _ ≤ 16777216
  omega)
theorem numP_len {n : Int} (h : n.natAbs < 1000000000) : (numP n).length ≤ 10 := by
  have := TL.numL_len (n := n.natAbs) (k := 9) (by omega) (by omega)
  unfold numP
  split
  · rw [List.length_cons]; omega
  · omega
theorem wordP_len {p q : Int} (h : p.natAbs < 1000000000) (h2 : q.natAbs < 1000000000) : (wordP p q).length ≤ 21 := by
  have a := numP_len h
  have b := numP_len h2
  unfold wordP
  split
  · omega
  · rw [List.length_append, List.length_cons]; omega
theorem add3 {a b : TX} (h : a.length ≤ 1000000) (h2 : b.length ≤ 1000000) : dAdd (tx a) (tx b) = some (.F (tx (a ++ b))) := dAdd_tx (by show _ ≤ 16777216; omega)
theorem nword_ok {p q : Int} (h : p.natAbs < 1000000000) (h0 : 0 < q) (h2 : q < 1000000000) : c_number_word [.F (.tuple [.int p, .int q])] = some (.F (tx (wordP p q)), none) := by
  have a := numP_len h
  have b := numP_len (n := q) (by omega)
  have s1' := dStr_tx h
  have s2' := dStr_tx (n := q) (by omega)
  have d1 := add3 (a := numP p) (b := [47]) (by omega) (by simp)
  have d2 := add3 (a := numP p ++ [47]) (b := numP q) (by simp; omega) (by omega)
  unfold wordP
  by_cases k : q = 1
  · subst k
    simp [c_number_word, s_number_word, s1', -dStr_i]
  · simp [c_number_word, s_number_word, s1', s2', eq_false k, d1, d2, -dStr_i, -dAdd_s]
theorem lword_ok {p q : Int} (h : p.natAbs < 1000000000) (h0 : 0 < q) (h2 : q < 1000000000) : c__law_word [.F (.tuple [.int p, .int q])] = some (.F (tx (wordP p q)), none) := nword_ok h h0 h2
theorem strs_comp {a0 a1 : Option Cell} {l : List Int} {fI : SemR} (hI : fI [a0, a1, none] = some (.li (l.map .int), [a0, a1, none])) (hl : l.length ≤ 1000000) (h : ∀ n ∈ l, n.natAbs < 1000000000) : sLc fI (gNm 2) bYes (s1 dStr (sVar 2)) [2] [a0, a1, none] = some (.val (.O ((l.map numP).map tx)), [a0, a1, none]) := by
  have hs0 := sLc_enc (fI := fI) (g := gNm 2) (t := bYes) (e := s1 dStr (sVar 2)) (vs := [2]) (Γ := [a0, a1, none]) (Γ1 := [a0, a1, none]) .int (fun n => tx (numP n)) l hI (by omega) (fun n hn => by
    have e := dStr_tx (h n hn)
    simp [lcS, e, -dStr_i])
  rw [List.map_map]
  exact hs0.trans (by simp)
theorem line_ok {e : Ent} (hf : e.fit) (hl : e.line.length ≤ 1000000) : c_line_of [.F e.D] = some (.F (tx e.line), none) := by
  cases e with
  | drop n =>
    have s := dStr_tx (n := n) hf
    have d := add3 (a := dropL ++ [32]) (b := numP n) (by simp) (by have := numP_len (n := n) hf; omega)
    have el : Ent.line (.drop n) = dropL ++ [32] ++ numP n := rfl
    rw [el]
    simp only [List.append_assoc, List.cons_append, List.nil_append] at d ⊢
    simp [c_line_of, s_line_of, Ent.D, s, d, -dStr_i, -dAdd_s]
  | dos l =>
    have j := dJoin_ok (ws := doL :: l.map numP) hl
    have hc : l.length ≤ 1000000 := by have a := join_sum 32 (doL :: l.map numP); have : (TL.joinL [32] (doL :: l.map numP)).length ≤ 1000000 := hl; rw [List.length_cons, List.length_map] at a; simp at a; omega
    have lc := strs_comp (a0 := some (.F (.tuple [tx doL, .tuple (l.map .int)]))) (a1 := none) (l := l) (fI := rSq (s2 dIx (sVar 0) (sData (.int 1)))) (by simp) hc hf.2
    have run : s_line_of ([Cell.F (Ent.D (.dos l))].map some ++ List.replicate (3 - 1) none) = some (.rt (.F (tx (Ent.line (.dos l)))), [some (.F (.tuple [tx doL, .tuple (l.map .int)])), none, none]) := by
      refine cSeq_rt (cIf_t (Γ1 := [some (.F (.tuple [tx doL, .tuple (l.map .int)])), none, none]) (by simp [Ent.D]) (cSeq_rt ?_))
      have lc' := lc
      rw [List.map_map] at lc'
      have j' : dJoin (tx [32]) (.list (tx doL :: l.map (tx ∘ numP))) = some (.F (tx (TL.joinL [32] (doL :: l.map numP)))) := by
        rw [List.map_cons, List.map_map] at j; exact j
      have lim : 1 + l.length ≤ 16777216 := by omega
      simp [lc', j', Ent.line, Ent.words, lim, -List.map_cons]
    exact cal_rt (by simp) run
  | joint a p q r s =>
    obtain ⟨f1, f2, f3, f4, f5, f6⟩ := hf
    have w1 := nword_ok f1 f2 f3
    have w2 := nword_ok f4 f5 f6
    have j : dJoin (tx [32]) (.list [tx planL, tx jointL, tx a, tx (wordP p q), tx (wordP r s)]) = some (.F (tx (Ent.line (.joint a p q r s)))) := dJoin_ok (ws := [planL, jointL, a, wordP p q, wordP r s]) hl
    simp [c_line_of, s_line_of, Ent.D, Ent.chg, w1, w2, j]
  | hold a w =>
    cases w with
    | none =>
      have j : dJoin (tx [32]) (.list [tx planL, tx holdL, tx a, tx freeL]) = some (.F (tx (Ent.line (.hold a none)))) := dJoin_ok (ws := [planL, holdL, a, freeL]) hl
      simp [c_line_of, s_line_of, Ent.D, Ent.chg, j]
    | some w =>
      have j : dJoin (tx [32]) (.list [tx planL, tx holdL, tx a, tx w]) = some (.F (tx (Ent.line (.hold a (some w))))) := dJoin_ok (ws := [planL, holdL, a, w]) hl
      simp [c_line_of, s_line_of, Ent.D, Ent.chg, j]
  | bar k a b =>
    have j : dJoin (tx [32]) (.list [tx planL, tx k, tx a, tx b]) = some (.F (tx (Ent.line (.bar k a b)))) := dJoin_ok (ws := [planL, k, a, b]) hl
    rcases hf with rfl | rfl <;> simp [c_line_of, s_line_of, Ent.D, Ent.chg, j]
theorem lline_ok {e : Ent} (hf : e.fit) (hl : e.line.length ≤ 900000) : c__law_line [.F e.D] = some (.F (tx e.line), none) := by
  have hw : ∀ w ∈ e.words, w.length ≤ 900000 := fun w hw => Nat.le_trans (join_in 32 hw) hl
  cases e with
  | drop n =>
    have s := dStr_tx (n := n) hf
    have d := add3 (a := dropL ++ [32]) (b := numP n) (by simp) (by have := numP_len (n := n) hf; omega)
    have el : Ent.line (.drop n) = dropL ++ [32] ++ numP n := rfl
    rw [el]
    simp only [List.append_assoc, List.cons_append, List.nil_append] at d ⊢
    simp [c__law_line, s__law_line, Ent.D, s, d, -dStr_i, -dAdd_s]
  | dos l =>
    obtain ⟨hne, hf⟩ := hf
    have el : Ent.line (.dos l) = doL ++ [32] ++ TL.joinL [32] (l.map numP) := by
      cases l with
      | nil => exact absurd rfl hne
      | cons n l => rfl
    have hl2 : (TL.joinL [32] (l.map numP)).length ≤ 900000 := by rw [el, List.length_append] at hl; omega
    have j := dJoin_ok (ws := l.map numP) (by omega)
    have hc : l.length ≤ 1000000 := by have a := join_sum 32 (l.map numP); rw [List.length_map] at a; omega
    have lc := strs_comp (a0 := some (.F (.tuple [tx doL, .tuple (l.map .int)]))) (a1 := none) (l := l) (fI := rSq (s2 dIx (sVar 0) (sData (.int 1)))) (by simp) hc hf
    have d := add3 (a := doL ++ [32]) (b := TL.joinL [32] (l.map numP)) (by simp) (by omega)
    rw [el]
    have run : s__law_line ([Cell.F (Ent.D (.dos l))].map some ++ List.replicate (3 - 1) none) = some (.rt (.F (tx (doL ++ [32] ++ TL.joinL [32] (l.map numP)))), [some (.F (.tuple [tx doL, .tuple (l.map .int)])), none, none]) := by
      refine cSeq_rt (cIf_t (Γ1 := [some (.F (.tuple [tx doL, .tuple (l.map .int)])), none, none]) (by simp [Ent.D]) (cSeq_rt ?_))
      rw [List.map_map] at lc j
      simp only [List.append_assoc, List.cons_append, List.nil_append] at d ⊢
      simp [lc, j, d, -List.map_cons, -dAdd_s]
    exact cal_rt (by simp) run
  | joint a p q r s =>
    obtain ⟨f1, f2, f3, f4, f5, f6⟩ := hf
    have w1 := lword_ok f1 f2 f3
    have w2 := lword_ok f4 f5 f6
    have l1 := wordP_len f1 (show q.natAbs < 1000000000 by omega)
    have l2 := wordP_len f4 (show s.natAbs < 1000000000 by omega)
    have la := hw a (by simp [Ent.words])
    have d1 := add3 (a := planL ++ 32 :: jointL ++ [32]) (b := a) (by simp) (by omega)
    have d2 := add3 (a := planL ++ 32 :: jointL ++ [32] ++ a) (b := [32]) (by simp; omega) (by simp)
    have d3 := add3 (a := planL ++ 32 :: jointL ++ [32] ++ a ++ [32]) (b := wordP p q) (by simp; omega) (by omega)
    have d4 := add3 (a := planL ++ 32 :: jointL ++ [32] ++ a ++ [32] ++ wordP p q) (b := [32]) (by simp; omega) (by simp)
    have d5 := add3 (a := planL ++ 32 :: jointL ++ [32] ++ a ++ [32] ++ wordP p q ++ [32]) (b := wordP r s) (by simp; omega) (by omega)
    have el : Ent.line (.joint a p q r s) = planL ++ 32 :: jointL ++ [32] ++ a ++ [32] ++ wordP p q ++ [32] ++ wordP r s := by
      simp [Ent.line, Ent.words, TL.joinL]
    rw [el]
    simp only [List.append_assoc, List.cons_append, List.nil_append] at d1 d2 d3 d4 d5 ⊢
    simp [c__law_line, s__law_line, Ent.D, Ent.chg, w1, w2, d1, d2, d3, d4, d5, -dAdd_s]
  | hold a w =>
    have main : ∀ (b : TX) (c : D), b.length ≤ 900000 → (c = tx b ∨ (c = .none ∧ b = freeL)) → c__law_line [.F (.tuple [tx planL, .tuple [tx holdL, tx a, c]])] = some (.F (tx (planL ++ [32] ++ holdL ++ [32] ++ a ++ [32] ++ b)), none) := fun b c lb hc => by
      have la := hw a (by simp [Ent.words])
      have d1 := add3 (a := planL ++ [32]) (b := holdL) (by simp) (by simp)
      have d2 := add3 (a := planL ++ [32] ++ holdL) (b := [32]) (by simp) (by simp)
      have d3 := add3 (a := planL ++ [32] ++ holdL ++ [32]) (b := a) (by simp) (by omega)
      have d4 := add3 (a := planL ++ [32] ++ holdL ++ [32] ++ a) (b := [32]) (by simp; omega) (by simp)
      have d5 := add3 (a := planL ++ [32] ++ holdL ++ [32] ++ a ++ [32]) (b := b) (by simp; omega) (by omega)
      simp only [List.append_assoc, List.cons_append, List.nil_append] at d1 d2 d3 d4 d5 ⊢
      rcases hc with rfl | ⟨rfl, rfl⟩
      · simp [c__law_line, s__law_line, d1, d2, d3, d4, d5, -dAdd_s]
      · simp [c__law_line, s__law_line, d1, d2, d3, d4, d5, -dAdd_s]
    have el : Ent.line (.hold a w) = planL ++ [32] ++ holdL ++ [32] ++ a ++ [32] ++ w.getD freeL := by
      simp [Ent.line, Ent.words, TL.joinL]
    rw [el]
    refine main (w.getD freeL) _ (hw _ (by simp [Ent.words])) ?_
    cases w with
    | none => exact .inr ⟨rfl, rfl⟩
    | some w => exact .inl rfl
  | bar k a b =>
    have la := hw a (by simp [Ent.words])
    have lb := hw b (by simp [Ent.words])
    have main : ∀ k : TX, (k = barL ∨ k = outL) → c__law_line [.F (.tuple [tx planL, .tuple [tx k, tx a, tx b]])] = some (.F (tx (planL ++ [32] ++ k ++ [32] ++ a ++ [32] ++ b)), none) := fun k hk => by
      have lk : k.length ≤ 3 := by rcases hk with rfl | rfl <;> simp
      have d1 := add3 (a := planL ++ [32]) (b := k) (by simp) (by omega)
      have d2 := add3 (a := planL ++ [32] ++ k) (b := [32]) (by simp; omega) (by simp)
      have d3 := add3 (a := planL ++ [32] ++ k ++ [32]) (b := a) (by simp; omega) (by omega)
      have d4 := add3 (a := planL ++ [32] ++ k ++ [32] ++ a) (b := [32]) (by simp; omega) (by simp)
      have d5 := add3 (a := planL ++ [32] ++ k ++ [32] ++ a ++ [32]) (b := b) (by simp; omega) (by omega)
      rcases hk with rfl | rfl
      · simp only [List.append_assoc, List.cons_append, List.nil_append] at d1 d2 d3 d4 d5 ⊢
        simp [c__law_line, s__law_line, d1, d2, d3, d4, d5, -dAdd_s]
      · simp only [List.append_assoc, List.cons_append, List.nil_append] at d1 d2 d3 d4 d5 ⊢
        simp [c__law_line, s__law_line, d1, d2, d3, d4, d5, -dAdd_s]
    have el : Ent.line (.bar k a b) = planL ++ [32] ++ k ++ [32] ++ a ++ [32] ++ b := by
      simp [Ent.line, Ent.words, TL.joinL]
    rw [el]
    exact main k hf

/-! ### k75: names -/
def gdP (w : TX) : Prop := (w.head?.any isLt) = true ∧ (w.all fun c => isLt c || isDg c) = true
abbrev nmB : SemS := (cSeq (cAsg (s2 dAdd (sVar 3) (s2 dIx (s2 dAdd (sVar 2) (sData (.str "0123456789"))) (sCallO c__law_draw [.lk] (iCons .lk (sVar 0) (iCons .lk (sData (.int 36)) iNil))))) (gNm 3)) cNil)
theorem all_sg : (ltL ++ dgL).all (fun c => isLt c || isDg c) = true := by decide +kernel
theorem lt_sg : ltL.all isLt = true := by decide +kernel
theorem tx_one {w : TX} {v : Int} (h : w.length ≤ 1000) (h0 : 0 ≤ v) (h1 : v < w.length) : ∃ c ∈ w, dIx (tx w) (.int v) = some (.F (sg c)) := by
  obtain ⟨k, rfl⟩ := Int.eq_ofNat_of_zero_le h0
  have hk : k < w.length := by omega
  refine ⟨w[k], List.getElem_mem hk, ?_⟩
  rw [dIx_tx (by show _ ≤ 16777216; omega), atI_n, List.getElem?_eq_getElem hk]
  rfl
theorem nm_step {ns : List Int} {l : List D} {w : TX} {a1 c4 : Option Cell} (h : Pl ns l) (hw : gdP w) (hl : w.length ≤ 100) :
    ∃ l' w', Pl ns l' ∧ gdP w' ∧ w'.length = w.length + 1 ∧ nmB [some (.O l), a1, some (.F (tx ltL)), some (.F (tx w)), c4] = some (.nx, [some (.O l'), a1, some (.F (tx ltL)), some (.F (tx w')), c4]) := by
  obtain ⟨v, l', e, v0, v1, h'⟩ := draw_ok h (m := 36) (by decide) (by decide)
  obtain ⟨c, hc, e2⟩ := tx_one (w := ltL ++ dgL) (by simp) v0 (by simpa using v1)
  have d1 := add3 (a := ltL) (b := dgL) (by simp) (by simp)
  have d2 : dAdd (tx w) (sg c) = some (.F (tx (w ++ [c]))) := add3 (a := w) (b := [c]) (by omega) (by simp)
  have g := List.all_eq_true.mp all_sg c hc
  refine ⟨l', w ++ [c], h', ⟨?_, ?_⟩, by simp, ?_⟩
  · have := hw.1
    cases w with
    | nil => simp at this
    | cons a r => exact this
  · rw [List.all_append, hw.2]; simpa using g
  · simp only [List.cons_append, List.nil_append] at d1 e2
    simp [d1, d2, e, e2, -dAdd_s, -dIx_s]
theorem nm_loop {ns : List Int} {a1 : Option Cell} : ∀ (n : Nat) (lo : Int) (l : List D) (w : TX) (c4 : Option Cell), Pl ns l → gdP w → w.length + n ≤ 100 →
    ∃ l' w' c4', Pl ns l' ∧ gdP w' ∧ w'.length ≤ 100 ∧ forR (gNm 4) nmB 1 n lo [some (.O l), a1, some (.F (tx ltL)), some (.F (tx w)), c4] = some (.nx, [some (.O l'), a1, some (.F (tx ltL)), some (.F (tx w')), c4'])
  | 0, lo, l, w, c4, h, hw, hl => ⟨l, w, c4, h, hw, by omega, rfl⟩
  | n + 1, lo, l, w, c4, h, hw, hl => by
    obtain ⟨l1, w1, h1, hw1, hl1, e1⟩ := nm_step (a1 := a1) (c4 := some (.F (.int lo))) h hw (by omega)
    obtain ⟨l', w', c4', h', hw', hl', e'⟩ := nm_loop n (lo + 1) l1 w1 (some (.F (.int lo))) h1 hw1 (by omega)
    exact ⟨l', w', c4', h', hw', hl', forR_go (by rfl) e1 e'⟩
theorem name_ok {ns : List Int} {l : List D} {k : Int} (h : Pl ns l) (h0 : 0 ≤ k) (h1 : k < 4) : ∃ w u l', c__law_name [.O l, .F (.int k)] = some (.F (tx w), some (.O l')) ∧ Pl ns l' ∧ nameP w = true ∧ w = u ++ [48, (48 + k.toNat)] := by
  obtain ⟨v, l1, e1, v0, v1, h2⟩ := draw_ok h (m := 12) (by decide) (by decide)
  obtain ⟨c, hc, e2⟩ := tx_one (w := ltL) (by simp) v0 (by simp; omega)
  have gc := List.all_eq_true.mp lt_sg c hc
  obtain ⟨d, l2, e3, hd, h3⟩ := pick_ok h2 (xs := [.int 0, .int 0, .int 1, .int 3, .int 9]) (by simp) (by simp)
  obtain ⟨n, rfl, hn⟩ : ∃ n : Nat, d = .int n ∧ n ≤ 9 := by
    simp only [List.mem_cons, List.not_mem_nil, or_false] at hd
    rcases hd with rfl | rfl | rfl | rfl | rfl
    · exact ⟨0, rfl, by omega⟩
    · exact ⟨0, rfl, by omega⟩
    · exact ⟨1, rfl, by omega⟩
    · exact ⟨3, rfl, by omega⟩
    · exact ⟨9, rfl, by omega⟩
  have hr : rgOk (n : Int) = true := by unfold rgOk; simp; omega
  obtain ⟨l3, w, c4, h4, gw, lw, e4⟩ := nm_loop (a1 := some (.F (.int k))) n 0 l2 [c] none h3 ⟨by simpa using gc, by simp [gc]⟩ (by simp; omega)
  have s := dStr_tx (n := 100 + k) (by omega)
  have nk : numP (100 + k) = [49, 48, 48 + k.toNat] := by
    obtain ⟨j, rfl⟩ := Int.eq_ofNat_of_zero_le h0
    have : j = 0 ∨ j = 1 ∨ j = 2 ∨ j = 3 := by omega
    rcases this with rfl | rfl | rfl | rfl <;> decide +kernel
  rw [nk] at s
  have q1 := dSl_to (w := w) (n := 10) (by show _ ≤ 16777216; omega) (by decide)
  have q2 := dSl_fr (w := [49, 48, 48 + k.toNat]) (n := 1) (by simp) (by decide)
  have q3 := add3 (a := w.take 10) (b := [48, 48 + k.toNat]) (by simp; omega) (by simp)
  refine ⟨w.take 10 ++ [48, 48 + k.toNat], w.take 10, l3, ?_, h4, ?_, rfl⟩
  · have run : s__law_name ([Cell.O l, .F (.int k)].map some ++ List.replicate (5 - 2) none) = some (.rt (.F (tx (w.take 10 ++ [48, 48 + k.toNat]))), [some (.O l3), some (.F (.int k)), some (.F (tx ltL)), some (.F (tx w)), c4]) := by
      refine cSeq_nx (by simp; rfl) ?_
      refine cSeq_nx (by simp [e1, e2, -dIx_s]; rfl) ?_
      refine cSeq_nx (cFor_go (by simp [e3, hr]; rfl) (by exact e4)) ?_
      exact cSeq_rt (by simp [s, q1, q2, q3, -dStr_i, -dAdd_s])
    exact cal_rt (by simp) run
  · cases w with
    | nil => simp [gdP] at gw
    | cons a r =>
      have g1 := gw.1
      have g2 : ((a :: r).take 10).all (fun c => isLt c || isDg c) = true := List.all_eq_true.mpr fun x hx => List.all_eq_true.mp gw.2 x (List.mem_of_mem_take hx)
      have g3 : isDg (48 + k.toNat) = true := decide_eq_true (by omega)
      unfold nameP
      simp only [Bool.and_eq_true, decide_eq_true_eq]
      refine ⟨⟨⟨by simp, by simp; omega⟩, ?_⟩, ?_⟩
      · rw [List.take_succ_cons, List.cons_append]
        exact g1
      · rw [List.all_append, g2]
        simp only [List.all_cons, List.all_nil, g3]
        simp [isDg]
/-- four names, two of them apart, in their order -/
structure Nms (N : List TX) : Prop where
  nm : ∀ w ∈ N, nameP w = true
  len : N.length = 4
  two : ∃ a ∈ N, ∃ b ∈ N, a ≠ b
theorem names_ok {ns : List Int} {l : List D} {a0 : Option Cell} (h : Pl ns l) : ∃ N l', Nms N ∧ Pl ns l' ∧
    (sAlt (s1 dSorted (sLc (rRg1 (aCons (sData (.int 4)) aNil)) (gNm 3) bYes (sCallO c__law_name [.lk] (iCons .lk (sVar 1) (iCons .lk (sVar 3) iNil))) [3])) (s1 dSortedS (sLc (rRg1 (aCons (sData (.int 4)) aNil)) (gNm 3) bYes (sCallO c__law_name [.lk] (iCons .lk (sVar 1) (iCons .lk (sVar 3) iNil))) [3]))) (a0 :: some (.O l) :: List.replicate 10 none) = some (.val (.O (N.map tx)), a0 :: some (.O l') :: List.replicate 10 none) := by
  obtain ⟨w0, u0, l1, e0, h1, n0, q0⟩ := name_ok h (k := 0) (by decide) (by decide)
  obtain ⟨w1, u1, l2, e1, h2, n1, q1⟩ := name_ok h1 (k := 1) (by decide) (by decide)
  obtain ⟨w2, u2, l3, e2, h3, n2, q2⟩ := name_ok h2 (k := 2) (by decide) (by decide)
  obtain ⟨w3, u3, l4, e3, h4, n3, q3⟩ := name_ok h3 (k := 3) (by decide) (by decide)
  have lc : lcR (gNm 3) bYes (sCallO c__law_name [.lk] (iCons .lk (sVar 1) (iCons .lk (sVar 3) iNil))) [3] 1 4 0 (wipeE [3] (a0 :: some (.O l) :: List.replicate 10 none)) = some ([tx w0, tx w1, tx w2, tx w3], a0 :: some (.O l4) :: List.replicate 10 none) := by
    refine lcR_go rfl rfl (by simp [e0]; exact ⟨rfl, rfl⟩) rfl ?_
    refine lcR_go rfl rfl (by simp [e1]; exact ⟨rfl, rfl⟩) rfl ?_
    refine lcR_go rfl rfl (by simp [e2]; exact ⟨rfl, rfl⟩) rfl ?_
    refine lcR_go rfl rfl (by simp [e3]; exact ⟨rfl, rfl⟩) rfl ?_
    rfl
  have hr : rgOk 4 = true := by decide
  have ls0 := sLc_rg (fI := rRg1 (aCons (sData (.int 4)) aNil)) (Γ := a0 :: some (.O l) :: List.replicate 10 none) (Γ1 := a0 :: some (.O l) :: List.replicate 10 none) (by simp [hr]) (by simp) lc
  have ls : sLc (rRg1 (aCons (sData (.int 4)) aNil)) (gNm 3) bYes (sCallO c__law_name [.lk] (iCons .lk (sVar 1) (iCons .lk (sVar 3) iNil))) [3] (a0 :: some (.O l) :: List.replicate 10 none) = some (.val (.O [tx w0, tx w1, tx w2, tx w3]), a0 :: some (.O l4) :: List.replicate 10 none) := ls0.trans (by simp)
  have e1 : s1 dSorted (sLc (rRg1 (aCons (sData (.int 4)) aNil)) (gNm 3) bYes (sCallO c__law_name [.lk] (iCons .lk (sVar 1) (iCons .lk (sVar 3) iNil))) [3]) (a0 :: some (.O l) :: List.replicate 10 none) = none := by
    rw [s1_ap, ls]; rfl
  have e2 : s1 dSortedS (sLc (rRg1 (aCons (sData (.int 4)) aNil)) (gNm 3) bYes (sCallO c__law_name [.lk] (iCons .lk (sVar 1) (iCons .lk (sVar 3) iNil))) [3]) (a0 :: some (.O l) :: List.replicate 10 none) = some (.val (.O ((srtS [SX.S w0, SX.S w1, SX.S w2, SX.S w3]).map .str)), a0 :: some (.O l4) :: List.replicate 10 none) := by
    rw [s1_ap, ls]; rfl
  have pm := srtS_perm [SX.S w0, SX.S w1, SX.S w2, SX.S w3]
  have mem : ∀ x, x ∈ srtS [SX.S w0, SX.S w1, SX.S w2, SX.S w3] ↔ x = SX.S w0 ∨ x = SX.S w1 ∨ x = SX.S w2 ∨ x = SX.S w3 := fun x => by rw [pm.mem_iff]; simp
  have back : ∀ x : Str, SX.S x.cps.toList = x := SX.S_tl
  refine ⟨(srtS [SX.S w0, SX.S w1, SX.S w2, SX.S w3]).map (fun x => x.cps.toList), l4, ⟨fun w hw => ?_, ?_, w0, ?_, w1, ?_, ?_⟩, h4, ?_⟩
  · obtain ⟨x, hx, rfl⟩ := List.mem_map.mp hw
    rcases (mem x).mp hx with rfl | rfl | rfl | rfl
    · exact n0
    · exact n1
    · exact n2
    · exact n3
  · rw [List.length_map, pm.length_eq]; rfl
  · exact List.mem_map.mpr ⟨SX.S w0, (mem _).mpr (.inl rfl), rfl⟩
  · exact List.mem_map.mpr ⟨SX.S w1, (mem _).mpr (.inr (.inl rfl)), rfl⟩
  · intro e
    rw [q0, q1] at e
    have := congrArg List.getLast? e
    simp at this
  · rw [sAlt_ap, e1]
    dsimp only
    rw [e2, List.map_map]
    congr 4

/-! ### k75: drawn entries -/
theorem div_bd {p g : Int} {b : Int} (hb : 0 ≤ b) (hg : 1 ≤ g) (h1 : -b ≤ p) (h2 : p ≤ b) : -b ≤ p / g ∧ p / g ≤ b := by
  have q : b * 1 ≤ b * g := Int.mul_le_mul_of_nonneg_left hg hb
  refine ⟨Int.le_ediv_of_mul_le (by omega) ?_, Int.ediv_le_of_le_mul (by omega) ?_⟩
  · rw [Int.neg_mul]; omega
  · omega
abbrev rgd (p q : Int) : Prop := p.natAbs < 1000000000 ∧ q < 1000000000 ∧ 0 < q ∧ (q = 1 ∨ Nat.gcd p.natAbs q.natAbs = 1)
theorem ratio_ok {p q : Int} (h1 : -2000 ≤ p) (h2 : p ≤ 2000) (h3 : 0 < q) (h4 : q ≤ 2000) : ∃ a b : Int, c__law_ratio [.F (.int p), .F (.int q)] = some (.F (.tuple [.int a, .int b]), none) ∧ rgd a b := by
  have e := lratio_ok (p := p) (q := q) (n := 40) (by omega) (by omega) (by decide)
  refine ⟨(Rat.divInt p q).num, ((Rat.divInt p q).den : Int), e, ?_⟩
  obtain ⟨n1, n2⟩ := divInt_pos (p := p) h3
  have g1 : 1 ≤ ((Nat.gcd p.natAbs q.natAbs : Nat) : Int) := by
    have := Nat.gcd_pos_of_pos_right p.natAbs (show 0 < q.natAbs by omega)
    omega
  have b1 := div_bd (b := 2000) (by decide) g1 h1 h2
  have b2 := div_bd (b := 2000) (p := q) (by decide) g1 (by omega) h4
  rw [← n1] at b1
  rw [← n2] at b2
  refine ⟨by omega, by omega, ?_, .inr ?_⟩
  · have := (Rat.divInt p q).den_pos; omega
  · rw [Int.natAbs_natCast]; exact (Rat.divInt p q).reduced
def Ent.semi : Ent → Prop
  | .dos l => l ≠ [] ∧ (∀ n ∈ l, 1 ≤ n ∧ n < 1000000) ∧ l.length ≤ 4
  | e => e.good
theorem ltS_tx {a b : TX} : ltS (SX.S a) (SX.S b) = decide (a < b) := by rw [← ltS_dec]
theorem minmax {a b : TX} (h : a ≠ b) : ∃ x y, dMin2S (tx a) (tx b) = some (.F (tx x)) ∧ dMax2S (tx a) (tx b) = some (.F (tx y)) ∧ x < y ∧ ((x = a ∧ y = b) ∨ (x = b ∧ y = a)) := by
  have e1 : dMin2S (tx a) (tx b) = some (.F (.str (if ltS (SX.S b) (SX.S a) = true then SX.S b else SX.S a))) := rfl
  have e2 : dMax2S (tx a) (tx b) = some (.F (.str (if ltS (SX.S a) (SX.S b) = true then SX.S b else SX.S a))) := rfl
  rw [ltS_tx] at e1 e2
  by_cases k : a < b
  · have k2 : ¬ b < a := fun z => List.lt_irrefl a (List.lt_trans k z)
    rw [if_neg (by simpa using k2)] at e1
    rw [if_pos (by simpa using k)] at e2
    exact ⟨a, b, e1, e2, k, .inl ⟨rfl, rfl⟩⟩
  · have k2 : b < a := by
      rcases Classical.em (b < a) with z | z
      · exact z
      · exact absurd (List.le_antisymm (List.not_lt.mp z) (List.not_lt.mp k)) h
    rw [if_pos (by simpa using k2)] at e1
    rw [if_neg (by simpa using k)] at e2
    exact ⟨b, a, e1, e2, k2, .inr ⟨rfl, rfl⟩⟩
@[simp] theorem dMin2_s {a b : Str} : dMin2 (.str a) (.str b) = none := rfl
@[simp] theorem dMax2_s {a b : Str} : dMax2 (.str a) (.str b) = none := rfl
theorem pick_nm {ns : List Int} {l : List D} {N : List TX} (h : Pl ns l) (h0 : N ≠ []) (hb : N.length ≤ 100) : ∃ w l', c__law_pick [.O l, .K (N.map tx)] = some (.F (tx w), some (.O l')) ∧ w ∈ N ∧ Pl ns l' := by
  obtain ⟨d, l', e, hd, h'⟩ := pick_ok h (xs := N.map tx) (by simpa using h0) (by simp; omega)
  obtain ⟨w, hw, rfl⟩ := List.mem_map.mp hd
  exact ⟨w, l', e, hw, h'⟩
theorem cdrawn_ok {ns : List Int} {l : List D} {N : List TX} (h : Pl ns l) (hN : Nms N) : ∃ (e : Ent) (l' : List G.D), c__law_change_drawn [.O l, .K (N.map tx)] = some (.F e.chg, some (.O l')) ∧ Pl ns l' ∧ e.good ∧ e.D = .tuple [tx planL, e.chg] := by
  have hne : N ≠ [] := fun z => by have := hN.len; rw [z] at this; simp at this
  obtain ⟨v, l1, e1, v0, v1, h1⟩ := draw_ok h (m := 8) (by decide) (by decide)
  by_cases k1 : v < 3
  · obtain ⟨w, l2, e2, hw, h2⟩ := pick_nm h1 hne (by rw [hN.len]; omega)
    obtain ⟨a, l3, e3, a0, a1, h3⟩ := draw_ok h2 (m := 13) (by decide) (by decide)
    obtain ⟨b, l4, e4, b0, b1, h4⟩ := draw_ok h3 (m := 2) (by decide) (by decide)
    obtain ⟨c, l5, e5, c0, c1, h5⟩ := draw_ok h4 (m := 9) (by decide) (by decide)
    obtain ⟨p, q, e6, g⟩ := ratio_ok (p := a - 6) (q := 1 + b) (by omega) (by omega) (by omega) (by omega)
    refine ⟨.joint w p q c 1, l5, ?_, h5, ⟨hN.nm w hw, g, by omega, by decide, by decide, .inl rfl⟩, rfl⟩
    simp [c__law_change_drawn, s__law_change_drawn, e1, eq_true k1, e2, e3, e4, e5, e6, Ent.chg]
  · by_cases k2 : v < 5
    · obtain ⟨w, l2, e2, hw, h2⟩ := pick_nm h1 hne (by rw [hN.len]; omega)
      obtain ⟨d, l3, e3, hd, h3⟩ := pick_ok h2 (xs := [tx bothL, tx bothL, tx xL, tx yL, .none]) (by simp) (by simp)
      have hw' := hN.nm w hw
      have run : c__law_change_drawn [.O l, .K (N.map tx)] = some (.F (.tuple [tx holdL, tx w, d]), some (.O l3)) := by
        simp [c__law_change_drawn, s__law_change_drawn, e1, eq_false k1, eq_true k2, e2, e3]
      simp only [List.mem_cons, List.not_mem_nil, or_false] at hd
      rcases hd with rfl | rfl | rfl | rfl | rfl
      · exact ⟨.hold w (some bothL), l3, run, h3, ⟨hw', .inr (.inl rfl)⟩, rfl⟩
      · exact ⟨.hold w (some bothL), l3, run, h3, ⟨hw', .inr (.inl rfl)⟩, rfl⟩
      · exact ⟨.hold w (some xL), l3, run, h3, ⟨hw', .inr (.inr (.inl rfl))⟩, rfl⟩
      · exact ⟨.hold w (some yL), l3, run, h3, ⟨hw', .inr (.inr (.inr rfl))⟩, rfl⟩
      · exact ⟨.hold w none, l3, run, h3, ⟨hw', .inl rfl⟩, rfl⟩
    · obtain ⟨a, l2, e2, ha, h2⟩ := pick_nm h1 hne (by rw [hN.len]; omega)
      have fne : N.filter (fun w => !decide (w = a)) ≠ [] := fun z => by
        rw [List.filter_eq_nil_iff] at z
        obtain ⟨x, hx, y, hy, hxy⟩ := hN.two
        have zx := z x hx
        have zy := z y hy
        simp at zx zy
        exact hxy (zx.trans zy.symm)
      have flen : (N.filter (fun w => !decide (w = a))).length ≤ 100 := Nat.le_trans (List.length_filter_le _ _) (by rw [hN.len]; omega)
      obtain ⟨b, l3, e3, hb, h3⟩ := pick_nm h2 fne flen
      obtain ⟨hb1, hb2⟩ := List.mem_filter.mp hb
      have hab : a ≠ b := fun z => by subst z; simp at hb2
      obtain ⟨x, y, m1, m2, xy, hxy⟩ := minmax hab
      have nx : nameP x = true := by rcases hxy with ⟨rfl, _⟩ | ⟨rfl, _⟩; exact hN.nm _ ha; exact hN.nm _ hb1
      have ny : nameP y = true := by rcases hxy with ⟨_, rfl⟩ | ⟨_, rfl⟩; exact hN.nm _ hb1; exact hN.nm _ ha
      obtain ⟨d, l4, e4, hd, h4⟩ := pick_ok h3 (xs := [tx barL, tx barL, tx outL]) (by simp) (by simp)
      have fs0 := sLc_filt (fI := rSq (sVar 1)) (g := gNm 5) (t := asB (s2 dNe (sVar 5) (sVar 3))) (e := sVar 5) (vs := [5]) (Γ := [some (.O l2), some (.K (N.map tx)), some (.F (.int v)), some (.F (tx a)), none, none]) (Γ1 := [some (.O l2), some (.K (N.map tx)), some (.F (.int v)), some (.F (tx a)), none, none]) tx tx (fun w => !decide (w = a)) N (by simp) (by rw [hN.len]; omega) (fun w _ => ⟨[some (.O l2), some (.K (N.map tx)), some (.F (.int v)), some (.F (tx a)), none, some (.F (tx w))], [some (.O l2), some (.K (N.map tx)), some (.F (.int v)), some (.F (tx a)), none, some (.F (tx w))], rfl, by simp, fun _ => by simp, fun _ => ⟨.slot 5, [some (.O l2), some (.K (N.map tx)), some (.F (.int v)), some (.F (tx a)), none, some (.F (tx w))], [some (.O l2), some (.K (N.map tx)), some (.F (.int v)), some (.F (tx a)), none, some (.F (tx w))], by simp, by simp, by simp⟩⟩)
      have fs : sLc (rSq (sVar 1)) (gNm 5) (asB (s2 dNe (sVar 5) (sVar 3))) (sVar 5) [5] [some (.O l2), some (.K (N.map tx)), some (.F (.int v)), some (.F (tx a)), none, none] = some (.val (.O ((N.filter (fun w => !decide (w = a))).map tx)), [some (.O l2), some (.K (N.map tx)), some (.F (.int v)), some (.F (tx a)), none, none]) := fs0.trans (by simp)
      have run : c__law_change_drawn [.O l, .K (N.map tx)] = some (.F (.tuple [d, tx x, tx y]), some (.O l4)) := by
        simp [c__law_change_drawn, s__law_change_drawn, e1, eq_false k1, eq_false k2, e2, fs, e3, e4, m1, m2]
      simp only [List.mem_cons, List.not_mem_nil, or_false] at hd
      rcases hd with rfl | rfl | rfl
      · exact ⟨.bar barL x y, l4, run, h4, ⟨.inl rfl, nx, ny, xy⟩, rfl⟩
      · exact ⟨.bar barL x y, l4, run, h4, ⟨.inl rfl, nx, ny, xy⟩, rfl⟩
      · exact ⟨.bar outL x y, l4, run, h4, ⟨.inr rfl, nx, ny, xy⟩, rfl⟩
abbrev doE : Sem1 := (s2 dAdd (sVar 3) (s2 dMul (s2 dMul (sVar 5) (s2 dAdd (sData (.int 1)) (sCallO c__law_draw [.lk] (iCons .lk (sVar 0) (iCons .lk (sData (.int 2)) iNil))))) (sData (.int 3))))
theorem do_loop {ns : List Int} {a1 a2 a4 : Option Cell} {f : Int} (f0 : 1 ≤ f) (f1 : f ≤ 9) : ∀ (n : Nat) (lo : Int) (l : List D), Pl ns l → 0 ≤ lo → lo + n ≤ 10 →
    ∃ (out : List Int) (l' : List D), Pl ns l' ∧ out.length = n ∧ (∀ x ∈ out, 1 ≤ x ∧ x < 1000000) ∧ lcR (gNm 5) bYes doE [5] 1 n lo [some (.O l), a1, a2, some (.F (.int f)), a4, none] = some (out.map .int, [some (.O l'), a1, a2, some (.F (.int f)), a4, none])
  | 0, lo, l, h, _, _ => ⟨[], l, h, rfl, (fun _ z => by cases z), rfl⟩
  | n + 1, lo, l, h, h0, h1 => by
    obtain ⟨v, l1, e1, v0, v1, h2⟩ := draw_ok h (m := 2) (by decide) (by decide)
    obtain ⟨out, l', h3, hl, hx, e2⟩ := do_loop f0 f1 (a1 := a1) (a2 := a2) (a4 := a4) n (lo + 1) l1 h2 (by omega) (by omega)
    have hv : v = 0 ∨ v = 1 := by omega
    have hm : mulOk lo (1 + v) = true := by
      have : lo.natAbs < 2 ^ 64 := by omega
      unfold mulOk
      simp [this]
    refine ⟨(f + lo * (1 + v) * 3) :: out, l', h3, by simp [hl], ?_, ?_⟩
    · intro x hx'
      rcases List.mem_cons.mp hx' with rfl | hx'
      · rcases hv with rfl | rfl <;> omega
      · exact hx x hx'
    · refine lcR_go rfl rfl (by simp [e1, hm, mulOk_r, mulOk_l]; exact ⟨rfl, rfl⟩) rfl ?_
      exact e2
theorem drawn_ok {ns : List Int} {l : List D} {N : List TX} (h : Pl ns l) (hN : Nms N) : ∃ (e : Ent) (l' : List G.D), c__law_drawn [.O l, .K (N.map tx)] = some (.F e.D, some (.O l')) ∧ Pl ns l' ∧ e.semi := by
  have hne : N ≠ [] := fun z => by have := hN.len; rw [z] at this; simp at this
  obtain ⟨v, l1, e1, v0, v1, h1⟩ := draw_ok h (m := 5) (by decide) (by decide)
  by_cases k0 : v = 0
  · obtain ⟨n, l2, e2, n0, n1, h2⟩ := draw_ok h1 (m := 300) (by decide) (by decide)
    refine ⟨.drop (1 + n), l2, ?_, h2, ⟨by omega, by omega⟩⟩
    simp [c__law_drawn, s__law_drawn, e1, eq_true k0, e2, Ent.D]
  by_cases k1 : v = 1
  · obtain ⟨f, l2, e2, f0, f1, h2⟩ := draw_ok h1 (m := 9) (by decide) (by decide)
    obtain ⟨n, l3, e3, n0, n1, h3⟩ := draw_ok h2 (m := 4) (by decide) (by decide)
    have hr : rgOk (1 + n) = true := by unfold rgOk; simp; omega
    obtain ⟨out, l4, h4, ol, ox, e4⟩ := do_loop (a1 := some (.K (N.map tx))) (a2 := some (.F (.int v))) (a4 := none) (f := 1 + f) (by omega) (by omega) (1 + n).toNat 0 l3 h3 (by decide) (by omega)
    have ls0 := sLc_rg (fI := rRg1 (aCons (s2 dAdd (sData (.int 1)) (sCallO c__law_draw [.lk] (iCons .lk (sVar 0) (iCons .lk (sData (.int 4)) iNil)))) aNil)) (g := gNm 5) (t := bYes) (e := doE) (vs := [5]) (Γ := [some (.O l2), some (.K (N.map tx)), some (.F (.int v)), some (.F (.int (1 + f))), none, none]) (Γ1 := [some (.O l3), some (.K (N.map tx)), some (.F (.int v)), some (.F (.int (1 + f))), none, none]) (lo := 0) (c := 1) (n := (1 + n).toNat) (by simp [e3, hr]) (by show _ ≤ 16777216; omega) (by simpa using e4)
    have ls : sLc (rRg1 (aCons (s2 dAdd (sData (.int 1)) (sCallO c__law_draw [.lk] (iCons .lk (sVar 0) (iCons .lk (sData (.int 4)) iNil)))) aNil)) (gNm 5) bYes doE [5] [some (.O l2), some (.K (N.map tx)), some (.F (.int v)), some (.F (.int (1 + f))), none, none] = some (.val (.O (out.map .int)), [some (.O l4), some (.K (N.map tx)), some (.F (.int v)), some (.F (.int (1 + f))), none, none]) := ls0.trans (by simp)
    refine ⟨.dos out, l4, ?_, h4, ⟨fun z => by rw [z] at ol; simp at ol; omega, ox, by omega⟩⟩
    have run : s__law_drawn ([Cell.O l, .K (N.map tx)].map some ++ List.replicate (6 - 2) none) = some (.rt (.F (Ent.D (.dos out))), [some (.O l4), some (.K (N.map tx)), some (.F (.int v)), some (.F (.int (1 + f))), none, none]) := by
      refine cSeq_nx (by simp [e1]; rfl) ?_
      refine cSeq_nx (by simp [eq_false k0]; rfl) ?_
      refine cSeq_rt (cIf_t (by simp [eq_true k1] <;> rfl) ?_)
      refine cSeq_nx (by simp [e2]; rfl) ?_
      exact cSeq_rt (by simp [ls, Ent.D])
    exact cal_rt (by simp) run
  by_cases k2 : v = 2
  · obtain ⟨a, l2, e2, a0, a1, h2⟩ := draw_ok h1 (m := 2001) (by decide) (by decide)
    obtain ⟨b, l3, e3, b0, b1, h3⟩ := draw_ok h2 (m := 30) (by decide) (by decide)
    obtain ⟨c, l4, e4, c0, c1, h4⟩ := draw_ok h3 (m := 21) (by decide) (by decide)
    obtain ⟨d, l5, e5, d0, d1, h5⟩ := draw_ok h4 (m := 3) (by decide) (by decide)
    obtain ⟨w, l6, e6, hw, h6⟩ := pick_nm h5 hne (by rw [hN.len]; omega)
    obtain ⟨p, q, r1, g1⟩ := ratio_ok (p := a - 1000) (q := 1 + b) (by omega) (by omega) (by omega) (by omega)
    obtain ⟨r, s, r2, g2⟩ := ratio_ok (p := c - 10) (q := 1 + d) (by omega) (by omega) (by omega) (by omega)
    refine ⟨.joint w p q r s, l6, ?_, h6, ⟨hN.nm w hw, g1, g2⟩⟩
    simp [c__law_drawn, s__law_drawn, e1, eq_false k0, eq_false k1, eq_true k2, e2, e3, e4, e5, e6, r1, r2, Ent.D, Ent.chg]
  · obtain ⟨e, l2, e2, h2, g, gd⟩ := cdrawn_ok h1 hN
    refine ⟨e, l2, ?_, h2, ?_⟩
    · rw [gd]
      simp [c__law_drawn, s__law_drawn, e1, eq_false k0, eq_false k1, eq_false k2, e2]
    · cases e with
      | dos l => simp [Ent.D] at gd
      | _ => exact g

/-! ### k75: copies, strange lines -/
inductive Tp : Nat → D → Prop where
  | n {k} : Tp k .none
  | i {k m} : Tp k (.int m)
  | s {k m} : Tp k (.str m)
  | t {k xs} (h : ∀ x ∈ xs, Tp k x) (l : xs.length ≤ 16777216) : Tp (k + 1) (.tuple xs)
theorem copy_self : ∀ (k : Nat) (d : D), Tp k d → c__law_copied (k + 1) [.F d] = some (.F d, none) := by
  intro k
  induction k with
  | zero =>
    intro d h
    show fnCal 1 false 4 (s__law_copied (c__law_copied 0)) _ = _
    generalize c__law_copied 0 = c
    cases h <;> simp [s__law_copied]
  | succ k ih =>
    intro d h
    show fnCal 1 false 4 (s__law_copied (c__law_copied (k + 1))) _ = _
    generalize c__law_copied (k + 1) = c at *
    cases h with
    | n => simp [s__law_copied]
    | i => simp [s__law_copied]
    | s => simp [s__law_copied]
    | @t _ xs h hl =>
      have hs0 := sLc_enc (fI := rSq (sVar 0)) (g := gNm 3) (t := bYes) (e := sCall c [.lk] (iCons .lk (sVar 3) iNil)) (vs := [3]) (Γ := [some (.F (.tuple xs)), none, none, none]) (Γ1 := [some (.F (.tuple xs)), none, none, none]) (fun d => d) (fun d => d) xs (by simp) hl (fun d hd => by
        have e := ih d (h d hd)
        have hd' := h d hd
        cases hd' <;> simp [lcS, e])
      have hs : sLc (rSq (sVar 0)) (gNm 3) bYes (sCall c [.lk] (iCons .lk (sVar 3) iNil)) [3] [some (.F (.tuple xs)), none, none, none] = some (.val (.O xs), [some (.F (.tuple xs)), none, none, none]) := hs0.trans (by simp)
      simp [s__law_copied, hs]
theorem Ent.tp (e : Ent) (h : ∀ l, e = .dos l → l.length ≤ 1000) : Tp 11 e.D := by
  have two : ∀ {k : Nat} {a b : G.D}, Tp k a → Tp k b → Tp (k + 1) (.tuple [a, b]) := fun ha hb => .t (by simp; exact ⟨ha, hb⟩) (by simp)
  have thr : ∀ {k : Nat} {a b c : G.D}, Tp k a → Tp k b → Tp k c → Tp (k + 1) (.tuple [a, b, c]) := fun ha hb hc => .t (by simp; exact ⟨ha, hb, hc⟩) (by simp)
  cases e with
  | drop n => exact two .s .i
  | dos l => exact two .s (.t (fun x hx => by obtain ⟨n, _, rfl⟩ := List.mem_map.mp hx; exact .i) (by have := h l rfl; rw [List.length_map]; omega))
  | joint a p q r s => exact two .s (thr .s .s (two (two .i .i) (two .i .i)))
  | hold a w => exact two .s (thr .s .s (by cases w; exact .n; exact .s))
  | bar k a b => exact two .s (thr .s .s .s)
theorem Ent.sz (e : Ent) (h : ∀ l, e = .dos l → l.length ≤ 1000) (hw : ∀ w ∈ e.words, w.length ≤ 1000) : Sz 8 e.D := by
  have two : ∀ {k : Nat} {a b : G.D}, Sz k a → Sz k b → Sz (k + 1) (.tuple [a, b]) := fun ha hb => .t (by simp; exact ⟨ha, hb⟩) (by simp)
  have thr : ∀ {k : Nat} {a b c : G.D}, Sz k a → Sz k b → Sz k c → Sz (k + 1) (.tuple [a, b, c]) := fun ha hb hc => .t (by simp; exact ⟨ha, hb, hc⟩) (by simp)
  have st : ∀ {k : Nat} (w : TX), w.length ≤ 1000 → Sz k (tx w) := fun w h => .s (by rw [SX.S_len]; omega)
  cases e with
  | drop n => exact two (st _ (by simp)) .i
  | dos l => exact two (st _ (by simp)) (.t (fun x hx => by obtain ⟨n, _, rfl⟩ := List.mem_map.mp hx; exact .i) (by have := h l rfl; rw [List.length_map]; omega))
  | joint a p q r s => exact two (st _ (by simp)) (thr (st _ (by simp)) (st _ (hw _ (by simp [Ent.words]))) (two (two .i .i) (two .i .i)))
  | hold a w => exact two (st _ (by simp)) (thr (st _ (by simp)) (st _ (hw _ (by simp [Ent.words]))) (by
      cases w with
      | none => exact .n
      | some w => exact st _ (hw _ (by simp [Ent.words]))))
  | bar k a b => exact two (st _ (by simp)) (thr (st _ (hw _ (by simp [Ent.words]))) (st _ (hw _ (by simp [Ent.words]))) (st _ (hw _ (by simp [Ent.words]))))
def STR : List TX := (["", "plan", "plan joint", "plan joint a", "plan joint a 1", "plan joint a 1 2 3", "plan joint a 2/4 1", "plan joint a 1/1 1", "plan joint a -0 1",
  "plan joint a 01 1", "plan joint a 1/-2 1", "plan joint a 1//2 1", "plan joint 9a 1 1", "plan hold a", "plan hold a none", "plan hold a both both",
  "plan bar a", "plan bar b a", "plan bar a a", "plan bars a b", "do", "do 0", "do 2 1", "do 1 1", "do x", "do -1", "drop", "drop 0", "drop 1 2", "drops 1",
  " plan hold a x", "plan  hold a x", "plan hold a x ", "plan joint a 0/2 1", "plan joint A 1 1", "plan joint a 1 /2"] : List String).map fun s => (Str.ofString s).cps.toList
theorem str_ok : c__law_strange [] = some (.O (STR.map tx), none) := by kernel_rfl
theorem str_none : (STR.all fun w => (entP w).isNone && decide (w.length ≤ 100)) = true := by decide +kernel
/-! the entry that the law goes on with -/
def fixE : Ent → Ent
  | .dos l => if incP l = true then .dos l else .dos (l.take 1)
  | e => e
structure Okay (e : Ent) : Prop where
  good : e.good
  cnt : e.words.length ≤ 5
  each : ∀ w ∈ e.words, w.length ≤ 30
theorem name_len {a : TX} (h : nameP a = true) : a.length ≤ 12 := by
  unfold nameP at h
  simp only [Bool.and_eq_true, decide_eq_true_eq] at h
  exact h.1.1.2
theorem good_okay {e : Ent} (h : e.good) (hl : ∀ l, e = .dos l → l.length ≤ 4) : Okay e := by
  refine ⟨h, ?_, ?_⟩
  · cases e with
    | dos l => have := hl l rfl; simp [Ent.words]; omega
    | _ => simp [Ent.words]
  · cases e with
    | drop n => have := numP_len (n := n) (by have := h.1; have := h.2; omega); simp [Ent.words]; omega
    | dos l =>
      intro w hw
      rcases List.mem_cons.mp hw with rfl | hw
      · simp
      · obtain ⟨n, hn, rfl⟩ := List.mem_map.mp hw
        have := numP_len (n := n) (by have := h.2.1 n hn; omega)
        omega
    | joint a p q r s =>
      obtain ⟨h1, h2, h3⟩ := h
      have a1 := name_len h1
      have a2 := wordP_len h2.1 (show q.natAbs < 1000000000 by have := h2.2; omega)
      have a3 := wordP_len h3.1 (show s.natAbs < 1000000000 by have := h3.2; omega)
      simp [Ent.words]; omega
    | hold a w =>
      obtain ⟨h1, h2⟩ := h
      have a1 := name_len h1
      rcases h2 with rfl | rfl | rfl | rfl <;> simp [Ent.words] <;> omega
    | bar k a b =>
      obtain ⟨h1, h2, h3, _⟩ := h
      have a1 := name_len h2
      have a2 := name_len h3
      rcases h1 with rfl | rfl <;> simp [Ent.words] <;> omega
theorem fix_ok {e : Ent} (h : e.semi) : Okay (fixE e) := by
  cases e with
  | dos l =>
    obtain ⟨h1, h2, h3⟩ := h
    unfold fixE
    dsimp only
    by_cases k : incP l = true
    · rw [if_pos k]
      exact good_okay ⟨h1, fun n hn => by have := h2 n hn; omega, k⟩ fun l' e => by cases e; exact h3
    · rw [if_neg k]
      cases l with
      | nil => exact absurd rfl h1
      | cons a r =>
        have ha := h2 a (by simp)
        exact good_okay (e := .dos [a]) ⟨by simp, fun n hn => by simp at hn; subst hn; omega, rfl⟩ fun l' e => by cases e; simp
  | drop n => exact good_okay h fun l' e => by cases e
  | joint a p q r s => exact good_okay h fun l' e => by cases e
  | hold a w => exact good_okay h fun l' e => by cases e
  | bar k a b => exact good_okay h fun l' e => by cases e
theorem join_le {c m : Nat} : ∀ {ws : List TX}, (∀ w ∈ ws, w.length ≤ m) → (TL.joinL [c] ws).length ≤ ws.length * (m + 1)
  | [], _ => by simp [TL.joinL]
  | [u], h => by have := h u (by simp); simp [TL.joinL]; omega
  | u :: v :: ws, h => by
    have e : TL.joinL [c] (u :: v :: ws) = u ++ ([c] ++ TL.joinL [c] (v :: ws)) := rfl
    have ih := join_le (c := c) (ws := v :: ws) fun w hw => h w (by simp at hw ⊢; exact .inr hw)
    have hu := h u (by simp)
    have e2 : (u :: v :: ws).length * (m + 1) = (v :: ws).length * (m + 1) + (m + 1) := by rw [List.length_cons (a := u), Nat.add_mul, Nat.one_mul]
    rw [e, List.length_append, List.length_append, e2, List.length_cons, List.length_nil]
    omega

abbrev lawB : SemS := (cSeq (cExp (sCallO c__law_next [] (iCons .lk (sVar 1) iNil))) (cSeq (cAsg (sCallO c__law_drawn [.lk] (iCons .lk (sVar 1) (iCons .lk (sVar 2) iNil))) (gNm 4)) (cSeq (cIf (sAndB (asB (s2 dEq (s2 dIx (sVar 4) (sData (.int 0))) (sData (.str "do")))) (sNotB (sTru (s1 dAll (sLc (rRg2 (aCons (sData (.int 1)) (aCons (s1 dLen (s2 dIx (sVar 4) (sData (.int 1)))) aNil))) (gNm 7) bYes (s2 dLt (s2 dIx (s2 dIx (sVar 4) (sData (.int 1))) (s2 dSub (sVar 7) (sData (.int 1)))) (s2 dIx (s2 dIx (sVar 4) (sData (.int 1))) (sVar 7))) [7]))))) (cSeq (cAsg (sTup (aCons (sData (.str "do")) (aCons (sSl (s2 dIx (sVar 4) (sData (.int 1))) oNone (oSome (sData (.int 1)))) aNil))) (gNm 4)) cNil) cNil) (cSeq (cAsg (sCall c__law_line [.lk] (iCons .lk (sVar 4) iNil)) (gNm 5)) (cSeq (cIf (sNotB (sTru (sCall (c__law_same 12) [.lk, .lk] (iCons .lk (sLst (aCons (sCall c_line_of [.lk] (iCons .lk (sCall (c__law_copied 12) [.lk] (iCons .lk (sVar 4) iNil)) iNil)) (aCons (sCall c_entry_of [.lk] (iCons .lk (sVar 5) iNil)) aNil))) (iCons .lk (sLst (aCons (sVar 5) (aCons (sVar 4) aNil))) iNil))))) (cSeq (cRet false (sData (.bool false))) cNil) cNil) (cSeq (cAsg (sM1 isS dSplit (sVar 5) (sData (.str " "))) (gNm 6)) (cSeq (cAsg (sCallO c__law_draw [.lk] (iCons .lk (sVar 1) (iCons .lk (s1 dLen (sVar 6)) iNil))) (gNm 7)) (cSeq (cAsg (sCallO c__law_pick [.lk] (iCons .lk (sVar 1) (iCons .lk (sLst (aCons (sData (.str "")) (aCons (sData (.str "7")) (aCons (sData (.str "-3")) (aCons (sData (.str "1/2")) (aCons (sData (.str "2/6")) (aCons (sData (.str "free")) (aCons (sData (.str "both")) (aCons (sData (.str "bar")) (aCons (sData (.str "plan")) (aCons (sData (.str "zz")) (aCons (s2 dAdd (s2 dIx (sVar 6) (sVar 7)) (sData (.str "x"))) aNil)))))))))))) iNil))) (gNm 8)) (cSeq (cAsg (sLst (aCons (sM1 isS dJoin (sData (.str " ")) (s2 dAdd (s2 dAdd (sSl (sVar 6) oNone (oSome (sVar 7))) (sLst (aCons (sVar 8) aNil))) (sSl (sVar 6) (oSome (s2 dAdd (sVar 7) (sData (.int 1)))) oNone))) (aCons (sM1 isS dJoin (sData (.str " ")) (s2 dAdd (sSl (sVar 6) oNone (oSome (sVar 7))) (sSl (sVar 6) (oSome (s2 dAdd (sVar 7) (sData (.int 1)))) oNone))) (aCons (sM1 isS dJoin (sData (.str " ")) (s2 dAdd (s2 dAdd (sSl (sVar 6) oNone (oSome (sVar 7))) (sLst (aCons (sVar 8) aNil))) (sSl (sVar 6) (oSome (sVar 7)) oNone))) aNil)))) (gNm 9)) (cSeq (cFor (asL [10, 11]) (rSq (sVar 9)) (gNm 10) (cSeq (cAsg (sCall c_entry_of [.lk] (iCons .lk (sVar 10) iNil)) (gNm 11)) (cSeq (cIf (sAndB (asB (s2 dIsNot (sVar 11) (sData .none))) (asB (s2 dNe (sCall c__law_line [.lk] (iCons .lk (sVar 11) iNil)) (sVar 10)))) (cSeq (cRet false (sData (.bool false))) cNil) cNil) cNil))) cNil))))))))))
abbrev strB : SemS := (cSeq (cAsg (sCall c_entry_of [.lk] (iCons .lk (sVar 10) iNil)) (gNm 11)) (cSeq (cIf (sAndB (asB (s2 dIsNot (sVar 11) (sData .none))) (asB (s2 dNe (sCall c__law_line [.lk] (iCons .lk (sVar 11) iNil)) (sVar 10)))) (cSeq (cRet false (sData (.bool false))) cNil) cNil) cNil))
abbrev fixS : SemS := (cIf (sAndB (asB (s2 dEq (s2 dIx (sVar 4) (sData (.int 0))) (sData (.str "do")))) (sNotB (sTru (s1 dAll (sLc (rRg2 (aCons (sData (.int 1)) (aCons (s1 dLen (s2 dIx (sVar 4) (sData (.int 1)))) aNil))) (gNm 7) bYes (s2 dLt (s2 dIx (s2 dIx (sVar 4) (sData (.int 1))) (s2 dSub (sVar 7) (sData (.int 1)))) (s2 dIx (s2 dIx (sVar 4) (sData (.int 1))) (sVar 7))) [7]))))) (cSeq (cAsg (sTup (aCons (sData (.str "do")) (aCons (sSl (s2 dIx (sVar 4) (sData (.int 1))) oNone (oSome (sData (.int 1)))) aNil))) (gNm 4)) cNil) cNil)
abbrev fixC : SemB := (sAndB (asB (s2 dEq (s2 dIx (sVar 4) (sData (.int 0))) (sData (.str "do")))) (sNotB (sTru (s1 dAll (sLc (rRg2 (aCons (sData (.int 1)) (aCons (s1 dLen (s2 dIx (sVar 4) (sData (.int 1)))) aNil))) (gNm 7) bYes (s2 dLt (s2 dIx (s2 dIx (sVar 4) (sData (.int 1))) (s2 dSub (sVar 7) (sData (.int 1)))) (s2 dIx (s2 dIx (sVar 4) (sData (.int 1))) (sVar 7))) [7])))))

/-! ### k75: the law -/
theorem semi_cnt {e : Ent} (h : e.semi) : ∀ l, e = .dos l → l.length ≤ 4 := fun l he => by subst he; exact h.2.2
theorem okay_cnt {e : Ent} (h : Okay e) : ∀ l, e = .dos l → l.length ≤ 4 := fun l he => by
  subst he
  have := h.cnt
  simp [Ent.words] at this
  omega
theorem okay_line {e : Ent} (h : Okay e) : e.line.length ≤ 200 := by
  have := join_le (c := 32) h.each
  have c := h.cnt
  have : e.words.length * (30 + 1) ≤ 5 * 31 := Nat.mul_le_mul_right _ c
  have k : e.line.length ≤ e.words.length * (30 + 1) := join_le h.each
  omega
theorem fix_step {e : Ent} {a0 a1 a2 a3 c5 c6 c7 c8 c9 c10 c11 : Option Cell} (h : e.semi) : ∃ c7', fixS [a0, a1, a2, a3, some (.F e.D), c5, c6, c7, c8, c9, c10, c11] = some (.nx, [a0, a1, a2, a3, some (.F (fixE e).D), c5, c6, c7', c8, c9, c10, c11]) := by
  cases e with
  | drop n => exact ⟨c7, cIf_f (by simp [Ent.D] <;> rfl) rfl⟩
  | joint a p q r s => exact ⟨c7, cIf_f (by simp [Ent.D] <;> rfl) rfl⟩
  | hold a w => exact ⟨c7, cIf_f (by simp [Ent.D] <;> rfl) rfl⟩
  | bar k a b => exact ⟨c7, cIf_f (by simp [Ent.D] <;> rfl) rfl⟩
  | dos l =>
    obtain ⟨h1, h2, h3⟩ := h
    have hl1 : 1 ≤ l.length := List.length_pos_iff.mpr h1
    have hr1 : rgOk 1 = true := by decide
    have hr : rgOk (l.length : Int) = true := by unfold rgOk; simp; omega
    have lc := lcR_map (g := gNm 7) (t := bYes) (e := s2 dLt (s2 dIx (s2 dIx (sVar 4) (sData (.int 1))) (s2 dSub (sVar 7) (sData (.int 1)))) (s2 dIx (s2 dIx (sVar 4) (sData (.int 1))) (sVar 7))) (vs := [7]) (Γ := [a0, a1, a2, a3, some (.F (.tuple [tx doL, .tuple (l.map .int)])), c5, c6, none, c8, c9, c10, c11]) (h := fun i => .bool (decide (l.getD (i - 1).toNat 0 < l.getD i.toNat 0))) (l.length - 1) 1 (fun i g1 g2 => by
      have b1 := atI_ints (l := l) (i := i) (by omega) (by omega)
      have b2 := atI_ints (l := l) (i := i - 1) (by omega) (by omega)
      exact ⟨_, _, _, _, _, rfl, rfl, by simp [b1, b2]; exact ⟨rfl, rfl⟩, by simp <;> rfl, by simp⟩)
    have ls0 := sLc_rg (fI := rRg2 (aCons (sData (.int 1)) (aCons (s1 dLen (s2 dIx (sVar 4) (sData (.int 1)))) aNil))) (Γ := [a0, a1, a2, a3, some (.F (.tuple [tx doL, .tuple (l.map .int)])), c5, c6, c7, c8, c9, c10, c11]) (Γ1 := [a0, a1, a2, a3, some (.F (.tuple [tx doL, .tuple (l.map .int)])), c5, c6, c7, c8, c9, c10, c11]) (lo := 1) (c := 1) (n := l.length - 1) (by simp [hr, hr1] <;> omega) (by show _ ≤ 16777216; omega) (by exact lc)
    have ls : sLc (rRg2 (aCons (sData (.int 1)) (aCons (s1 dLen (s2 dIx (sVar 4) (sData (.int 1)))) aNil))) (gNm 7) bYes (s2 dLt (s2 dIx (s2 dIx (sVar 4) (sData (.int 1))) (s2 dSub (sVar 7) (sData (.int 1)))) (s2 dIx (s2 dIx (sVar 4) (sData (.int 1))) (sVar 7))) [7] [a0, a1, a2, a3, some (.F (.tuple [tx doL, .tuple (l.map .int)])), c5, c6, c7, c8, c9, c10, c11] = some (.val (.O ((List.range (l.length - 1)).map fun j : Nat => .bool (decide (l.getD ((1 : Int) + j - 1).toNat 0 < l.getD ((1 : Int) + j).toNat 0)))), [a0, a1, a2, a3, some (.F (.tuple [tx doL, .tuple (l.map .int)])), c5, c6, bk c7, c8, c9, c10, c11]) := ls0.trans (by simp)
    have ai := all_inc (l := l)
    have st : sTru (s1 dAll (sLc (rRg2 (aCons (sData (.int 1)) (aCons (s1 dLen (s2 dIx (sVar 4) (sData (.int 1)))) aNil))) (gNm 7) bYes (s2 dLt (s2 dIx (s2 dIx (sVar 4) (sData (.int 1))) (s2 dSub (sVar 7) (sData (.int 1)))) (s2 dIx (s2 dIx (sVar 4) (sData (.int 1))) (sVar 7))) [7])) [a0, a1, a2, a3, some (.F (.tuple [tx doL, .tuple (l.map .int)])), c5, c6, c7, c8, c9, c10, c11] = some (incP l, [a0, a1, a2, a3, some (.F (.tuple [tx doL, .tuple (l.map .int)])), c5, c6, bk c7, c8, c9, c10, c11]) := by
      rw [sTru_ap, s1_ap, ls]
      dsimp only
      rw [pv_val, cpv_O]
      dsimp only
      rw [ai]
      rfl
    have t1 : asB (s2 dEq (s2 dIx (sVar 4) (sData (.int 0))) (sData (.str "do"))) [a0, a1, a2, a3, some (.F (.tuple [tx doL, .tuple (l.map .int)])), c5, c6, c7, c8, c9, c10, c11] = some (true, [a0, a1, a2, a3, some (.F (.tuple [tx doL, .tuple (l.map .int)])), c5, c6, c7, c8, c9, c10, c11]) := by simp
    refine ⟨bk c7, ?_⟩
    show fixS [a0, a1, a2, a3, some (.F (.tuple [tx doL, .tuple (l.map .int)])), c5, c6, c7, c8, c9, c10, c11] = _
    cases k : incP l with
    | true =>
      rw [k] at st
      have e : fixE (.dos l) = .dos l := by unfold fixE; simp only [k, if_true]
      rw [e]
      exact cIf_f (by rw [sAndB_ap, t1]; dsimp only; rw [sNotB_ap, st] <;> rfl) rfl
    | false =>
      rw [k] at st
      have e : fixE (.dos l) = .dos (l.take 1) := by unfold fixE; simp [k]
      rw [e]
      refine cIf_t (by rw [sAndB_ap, t1]; dsimp only; rw [sNotB_ap, st] <;> rfl) ?_
      have ct : G.cutD (l.map PyData.int) none (some 1) = (l.take 1).map PyData.int := by
        unfold G.cutD
        rw [List.map_take]
        show (List.drop 0 _).take ((min (1 : Int).toNat _) - 0) = _
        rw [List.drop_zero, Nat.sub_zero, show ((1 : Int).toNat) = 1 from rfl, List.length_map, Nat.min_eq_left hl1]
      exact cSeq_nx (by simp [ct, Ent.D, -List.map_take] <;> rfl) rfl
theorem str_step {s : TX} {a0 a1 a2 a3 a4 a5 a6 a7 a8 a9 c11 : Option Cell} (h : s.length ≤ 500000) : ∃ c11', strB [a0, a1, a2, a3, a4, a5, a6, a7, a8, a9, some (.F (tx s)), c11] = some (.nx, [a0, a1, a2, a3, a4, a5, a6, a7, a8, a9, some (.F (tx s)), c11']) := by
  have e1 := entry_ok (x := s) (by omega)
  cases k : entP s with
  | none =>
    rw [k] at e1
    refine ⟨some (.F .none), cSeq_nx (by simp [e1, oD] <;> rfl) ?_⟩
    exact cSeq_nx (cIf_f (by simp <;> rfl) rfl) rfl
  | some e =>
    rw [k] at e1
    obtain ⟨q1, q2⟩ := entA k
    have e2 := lline_ok q2 (by rw [q1]; omega)
    rw [q1] at e2
    have nn : isNone e.D = false := by cases e <;> rfl
    refine ⟨some (.F e.D), cSeq_nx (by simp [e1, oD] <;> rfl) ?_⟩
    have lk : lockD e.D = .F e.D := by cases e <;> rfl
    exact cSeq_nx (cIf_f (by simp [e2, nn, lk] <;> rfl) rfl) rfl
theorem str_loop {a0 a1 a2 a3 a4 a5 a6 a7 a8 a9 : Option Cell} : ∀ (ss : List TX) (c10 c11 : Option Cell), (∀ s ∈ ss, s.length ≤ 500000) → ∃ c10' c11', forL (gNm 10) strB (ss.map tx) [a0, a1, a2, a3, a4, a5, a6, a7, a8, a9, c10, c11] = some (.nx, [a0, a1, a2, a3, a4, a5, a6, a7, a8, a9, c10', c11'])
  | [], c10, c11, _ => ⟨c10, c11, rfl⟩
  | s :: ss, c10, c11, h => by
    obtain ⟨d11, e1⟩ := str_step (s := s) (a0 := a0) (a1 := a1) (a2 := a2) (a3 := a3) (a4 := a4) (a5 := a5) (a6 := a6) (a7 := a7) (a8 := a8) (a9 := a9) (c11 := c11) (h s (by simp))
    obtain ⟨c10', c11', e2⟩ := str_loop ss (some (.F (tx s))) d11 fun t ht => h t (by simp [ht])
    exact ⟨c10', c11', forL_go (by rfl) e1 e2⟩
theorem cutD_to {α : Type} (xs : List α) (k : Nat) (h : k ≤ xs.length) : G.cutD xs none (some (k : Int)) = xs.take k := by
  unfold G.cutD
  rw [HT.sIx_nat, HT.sIx_none, List.drop_zero, Nat.sub_zero, Nat.min_eq_left h]
@[simp] theorem q_e : Str.ofString "" = SX.S [] := rfl
@[simp] theorem q_7 : Str.ofString "7" = SX.S [55] := rfl
@[simp] theorem q_m3 : Str.ofString "-3" = SX.S [45, 51] := rfl
@[simp] theorem q_12 : Str.ofString "1/2" = SX.S [49, 47, 50] := rfl
@[simp] theorem q_26 : Str.ofString "2/6" = SX.S [50, 47, 54] := rfl
@[simp] theorem q_zz : Str.ofString "zz" = SX.S [122, 122] := rfl
theorem law_step {ns : List Int} {l : List D} {N : List TX} {a0 c3 c4 c5 c6 c7 c8 c9 c10 c11 : Option Cell} (h : Pl ns l) (hN : Nms N) : ∃ (l' : List G.D) (d4 d5 d6 d7 d8 d9 d10 d11 : Option Cell), Pl ns l' ∧
    lawB [a0, some (.O l), some (.O (N.map tx)), c3, c4, c5, c6, c7, c8, c9, c10, c11] = some (.nx, [a0, some (.O l'), some (.O (N.map tx)), c3, d4, d5, d6, d7, d8, d9, d10, d11]) := by
  obtain ⟨l1, e1, h1⟩ := next_ok h
  obtain ⟨en, l2, e2, h2, sm⟩ := drawn_ok h1 hN
  obtain ⟨d7, e3⟩ := fix_step (a0 := a0) (a1 := some (.O l2)) (a2 := some (.O (N.map tx))) (a3 := c3) (c5 := c5) (c6 := c6) (c7 := c7) (c8 := c8) (c9 := c9) (c10 := c10) (c11 := c11) sm
  have ok := fix_ok sm
  have lk0 : ∀ e : Ent, lockD e.D = .F e.D := fun e => by cases e <;> rfl
  generalize fixE en = e at *
  have ll := okay_line ok
  have e4 := lline_ok ok.good.fit (by omega)
  have e5 := line_ok ok.good.fit (by omega)
  have e6 := entry_ok (x := e.line) (by omega)
  rw [entB ok.good] at e6
  have cp : c__law_copied 12 [.F e.D] = some (.F e.D, none) := copy_self 11 e.D (e.tp fun l he => by have := okay_cnt ok l he; omega)
  have sz : Sz 9 (.list [tx e.line, e.D]) := .l (by
    intro x hx
    simp only [List.mem_cons, List.not_mem_nil, or_false] at hx
    rcases hx with rfl | rfl
    · exact .s (by rw [SX.S_len]; omega)
    · exact e.sz (fun l he => by have := okay_cnt ok l he; omega) (fun w hw => by have := ok.each w hw; omega)) (by simp)
  have same : c__law_same 12 [.K [tx e.line, e.D], .K [tx e.line, e.D]] = some (.F (.bool true), none) := same_ok sz (by omega)
  have sp := dSplit_tx (w := e.line) (c := 32) (by show _ ≤ 16777216; omega) (by decide)
  have hne := spl_ne (w := e.line) (c := 32) (by decide)
  have hw := fun p hp => spl_len (w := e.line) (c := 32) (by decide) p hp
  have hc := spl_cnt (w := e.line) (c := 32) (by decide)
  generalize TL.spl [32] 0 [] e.line = ws at *
  have hl0 : 0 < ws.length := List.length_pos_iff.mpr hne
  obtain ⟨v, l3, e7, v0, v1, h3⟩ := draw_ok h2 (m := (ws.length : Int)) (by omega) (by omega)
  obtain ⟨k, rfl⟩ := Int.eq_ofNat_of_zero_le v0
  have hk : k < ws.length := by omega
  have gk : ws[k]? = some ws[k] := List.getElem?_eq_getElem hk
  have hwk := hw ws[k] (List.getElem_mem hk)
  have dx := add3 (a := ws[k]) (b := xL) (by omega) (by simp)
  generalize ws[k] = u at *
  obtain ⟨d, l4, e8, hd, h4⟩ := pick_ok h3 (xs := [tx [], tx [55], tx [45, 51], tx [49, 47, 50], tx [50, 47, 54], tx freeL, tx bothL, tx barL, tx planL, tx [122, 122], tx (u ++ xL)]) (by simp) (by simp)
  obtain ⟨b, rfl, hb⟩ : ∃ b : TX, d = tx b ∧ b.length ≤ 300 := by
    simp only [List.mem_cons, List.not_mem_nil, or_false] at hd
    rcases hd with rfl | rfl | rfl | rfl | rfl | rfl | rfl | rfl | rfl | rfl | rfl
    · exact ⟨_, rfl, by simp⟩
    · exact ⟨_, rfl, by simp⟩
    · exact ⟨_, rfl, by simp⟩
    · exact ⟨_, rfl, by simp⟩
    · exact ⟨_, rfl, by simp⟩
    · exact ⟨_, rfl, by simp⟩
    · exact ⟨_, rfl, by simp⟩
    · exact ⟨_, rfl, by simp⟩
    · exact ⟨_, rfl, by simp⟩
    · exact ⟨_, rfl, by simp⟩
    · exact ⟨_, rfl, by simp; omega⟩
  have hlm : (ws.map tx).length = ws.length := List.length_map _
  have c1 : G.cutD (ws.map tx) none (some (k : Int)) = (ws.take k).map tx := by rw [cutD_to _ _ (by omega), List.map_take]
  have c2 : G.cutD (ws.map tx) (some ((k : Int) + 1)) none = (ws.drop (k + 1)).map tx := by rw [show (k : Int) + 1 = ((k + 1 : Nat) : Int) by omega, cutD_from, List.map_drop]
  have c3' : G.cutD (ws.map tx) (some (k : Int)) none = (ws.drop k).map tx := by rw [cutD_from, List.map_drop]
  have T1 : ∀ w ∈ ws.take k, w.length ≤ 300 := fun w hw' => by have := hw w (List.mem_of_mem_take hw'); omega
  have T2 : ∀ w ∈ ws.drop (k + 1), w.length ≤ 300 := fun w hw' => by have := hw w (List.mem_of_mem_drop hw'); omega
  have T3 : ∀ w ∈ ws.drop k, w.length ≤ 300 := fun w hw' => by have := hw w (List.mem_of_mem_drop hw'); omega
  have L1 : (ws.take k).length ≤ 201 := by rw [List.length_take]; omega
  have L2 : (ws.drop (k + 1)).length ≤ 201 := by rw [List.length_drop]; omega
  have L3 : (ws.drop k).length ≤ 201 := by rw [List.length_drop]; omega
  generalize ws.take k = A at *
  generalize ws.drop (k + 1) = B at *
  generalize ws.drop k = C at *
  have lim : ∀ X : List TX, X.length ≤ 500 → (∀ w ∈ X, w.length ≤ 300) → (TL.joinL [32] X).length ≤ 500000 := fun X h1 h2 => by
    have a := join_le (c := 32) h2
    have b : X.length * (300 + 1) ≤ 500 * 301 := Nat.mul_le_mul_right _ h1
    omega
  have b1 := lim (A ++ b :: B) (by rw [List.length_append, List.length_cons]; omega) (fun w hw' => by
    rcases List.mem_append.mp hw' with z | z
    · exact T1 w z
    · rcases List.mem_cons.mp z with rfl | z
      · exact hb
      · exact T2 w z)
  have b2 := lim (A ++ B) (by rw [List.length_append]; omega) (fun w hw' => by
    rcases List.mem_append.mp hw' with z | z
    · exact T1 w z
    · exact T2 w z)
  have b3 := lim (A ++ b :: C) (by rw [List.length_append, List.length_cons]; omega) (fun w hw' => by
    rcases List.mem_append.mp hw' with z | z
    · exact T1 w z
    · rcases List.mem_cons.mp z with rfl | z
      · exact hb
      · exact T3 w z)
  have j1 := dJoin_ok (ws := A ++ b :: B) (by omega)
  have j2 := dJoin_ok (ws := A ++ B) (by omega)
  have j3 := dJoin_ok (ws := A ++ b :: C) (by omega)
  rw [List.map_append] at j1 j2 j3
  rw [List.map_cons] at j1 j3
  have m1 : A.length + 1 ≤ 16777216 := by omega
  have m2 : A.length + (B.length + 1) ≤ 16777216 := by omega
  have m3 : A.length + B.length ≤ 16777216 := by omega
  have m4 : A.length + (C.length + 1) ≤ 16777216 := by omega
  have m5 : A.length + 1 + B.length ≤ 16777216 := by omega
  have m6 : A.length + 1 + C.length ≤ 16777216 := by omega
  obtain ⟨d10, d11, e9⟩ := str_loop (a0 := a0) (a1 := some (.O l4)) (a2 := some (.O (N.map tx))) (a3 := c3) (a4 := some (.F e.D)) (a5 := some (.F (tx e.line))) (a6 := some (.O (ws.map tx))) (a7 := some (.F (.int k))) (a8 := some (.F (tx b))) (a9 := some (.M ([TL.joinL [32] (A ++ b :: B), TL.joinL [32] (A ++ B), TL.joinL [32] (A ++ b :: C)].map tx))) [TL.joinL [32] (A ++ b :: B), TL.joinL [32] (A ++ B), TL.joinL [32] (A ++ b :: C)] c10 c11 (by
    intro s hs
    simp only [List.mem_cons, List.not_mem_nil, or_false] at hs
    rcases hs with rfl | rfl | rfl
    · exact b1
    · exact b2
    · exact b3)
  refine ⟨l4, some (.F e.D), some (.F (tx e.line)), some (.O (ws.map tx)), some (.F (.int k)), some (.F (tx b)), some (.O ([TL.joinL [32] (A ++ b :: B), TL.joinL [32] (A ++ B), TL.joinL [32] (A ++ b :: C)].map tx)), d10, d11, h4, ?_⟩
  refine cSeq_nx (by simp [e1]; rfl) ?_
  refine cSeq_nx (by simp [e2]; rfl) ?_
  refine cSeq_nx (by exact e3) ?_
  refine cSeq_nx (by simp [e4, lk0]; rfl) ?_
  refine cSeq_nx (by simp [cp, e5, e6, oD, lk0, same]; rfl) ?_
  refine cSeq_nx (by simp [sp]; rfl) ?_
  refine cSeq_nx (by simp [e7]; rfl) ?_
  refine cSeq_nx (by simp [gk, dx, e8, -dAdd_s]; rfl) ?_
  refine cSeq_nx (by simp [c1, c2, c3', j1, j2, j3, m1, m2, m3, m4, m5, m6]; rfl) ?_
  refine cSeq_nx (cFor_sl (i := 9) (xs := [TL.joinL [32] (A ++ b :: B), TL.joinL [32] (A ++ B), TL.joinL [32] (A ++ b :: C)].map tx) (by simp; rfl) (by rfl) (by exact e9) (by rfl)) ?_
  rfl

theorem law_loop {ns : List Int} {N : List TX} {a0 : Option Cell} (hN : Nms N) : ∀ (n : Nat) (lo : Int) (l : List D) (c3 c4 c5 c6 c7 c8 c9 c10 c11 : Option Cell), Pl ns l → ∃ (l' : List G.D) (d3 d4 d5 d6 d7 d8 d9 d10 d11 : Option Cell), Pl ns l' ∧
    forR (gNm 3) lawB 1 n lo [a0, some (.O l), some (.O (N.map tx)), c3, c4, c5, c6, c7, c8, c9, c10, c11] = some (.nx, [a0, some (.O l'), some (.O (N.map tx)), d3, d4, d5, d6, d7, d8, d9, d10, d11])
  | 0, lo, l, c3, c4, c5, c6, c7, c8, c9, c10, c11, h => ⟨l, c3, c4, c5, c6, c7, c8, c9, c10, c11, h, rfl⟩
  | n + 1, lo, l, c3, c4, c5, c6, c7, c8, c9, c10, c11, h => by
    obtain ⟨l1, b4, b5, b6, b7, b8, b9, b10, b11, h1, e1⟩ := law_step (a0 := a0) (c3 := some (.F (.int lo))) (c4 := c4) (c5 := c5) (c6 := c6) (c7 := c7) (c8 := c8) (c9 := c9) (c10 := c10) (c11 := c11) h hN
    obtain ⟨l', d3, d4, d5, d6, d7, d8, d9, d10, d11, h', e2⟩ := law_loop hN n (lo + 1) l1 (some (.F (.int lo))) b4 b5 b6 b7 b8 b9 b10 b11 h1
    exact ⟨l', d3, d4, d5, d6, d7, d8, d9, d10, d11, h', forR_go (by rfl) e1 e2⟩
theorem main (ns : List Int) (hn : ns.length ≤ 63) : c_law [.F (scr ns)] = some (.F (.bool true), none) := by
  obtain ⟨l, e1, h1⟩ := pool_ok ns
  obtain ⟨N, l1, hN, h2, e2⟩ := names_ok (a0 := some (.F (scr ns))) h1
  obtain ⟨l2, d3, d4, d5, d6, d7, d8, d9, d10, d11, h3, e3⟩ := law_loop (a0 := some (.F (scr ns))) hN 6 0 l1 none none none none none none none none none h2
  rw [show List.replicate 10 (none : Option Cell) = [none, none, none, none, none, none, none, none, none, none] from rfl] at e2
  have hr : rgOk 6 = true := by decide
  have so := str_ok
  have hs0 := sLc_enc (fI := rSq (sCall c__law_strange [] iNil)) (g := gNm 10) (t := bYes) (e := s2 dIsNot (sCall c_entry_of [.lk] (iCons .lk (sVar 10) iNil)) (sData .none)) (vs := [10]) (Γ := [some (.F (scr ns)), some (.O l2), some (.O (N.map tx)), d3, d4, d5, d6, d7, d8, d9, d10, d11]) (Γ1 := [some (.F (scr ns)), some (.O l2), some (.O (N.map tx)), d3, d4, d5, d6, d7, d8, d9, d10, d11]) tx (fun _ => .bool false) STR (by simp [so]) (by decide) (fun w hw => by
    have k := List.all_eq_true.mp str_none w hw
    rw [Bool.and_eq_true] at k
    have kl := of_decide_eq_true k.2
    have kn : entP w = none := Option.isNone_iff_eq_none.mp k.1
    have e := entry_ok (x := w) (by omega)
    rw [kn] at e
    simp [lcS, e, oD])
  generalize back _ _ _ = Γ4 at hs0
  have any : dAny (.list (STR.map fun _ => PyData.bool false)) = some (.F (.bool false)) := any_false (f := fun _ : TX => false) (xs := STR) (fun _ _ => rfl)
  have run : ∃ Γ', s_law ([Cell.F (scr ns)].map some ++ List.replicate (12 - 1) none) = some (.rt (.F (.bool true)), Γ') := by
    refine ⟨Γ4, ?_⟩
    refine cSeq_nx (by simp [e1]; rfl) ?_
    refine cSeq_nx (by rw [cAsg_ap, e2]; simp; rfl) ?_
    refine cSeq_nx (cFor_rg hr (by exact e3)) ?_
    refine cSeq_rt ?_
    rw [cRet_ap, sNotV_ap, sTru_ap, s1_ap, hs0]
    dsimp only
    rw [pv_val, cpv_O]
    dsimp only
    rw [any]
    rfl
  obtain ⟨Γ', run⟩ := run
  exact cal_rt (by simp) run
end K75
open PySem PySem.W PyProof.Rows
set_option maxRecDepth 100000 in
set_option maxHeartbeats 0 in
theorem PySem.Challenge.cw_trusswork_k75_lines_of_plans_and_deeds_holds : PySem.Challenge.rw_trusswork_k75_lines_of_plans_and_deeds.Holds := by
  w_on; o_law; k_head; (case hw => w_witness2)
  k_fill
  refine L2.walk_of (l := PySem.Challenge.rw_trusswork_k75_lines_of_plans_and_deeds) (n := 63) (k := 13) (x := "script") (CX := fun _ => L2.CX0) (sp := fun w => G.spG _ 1 false K75.c_law) rfl (by decide) rfl ⟨rfl, by decide, by decide⟩ (fun w h Y => PySem.W.kIn_of Y) ?F (fun _ H a ns hl hO hS => G.law_sp hO hS (K75.main ns hl)) (fun _ _ _ _ _ h => h)
  case F =>
    intro w mg fa h KX G hmg
    refine' K75.all_mk KX G hmg ?a1 ?l1 ?c1 ?k1 ?a2 ?l2 ?c2 ?k2 ?a3 ?l3 ?c3 ?k3 ?a4 ?l4 ?c4 ?k4 ?a5 ?l5 ?c5 ?k5 ?a6 ?l6 ?c6 ?k6 ?a7 ?l7 ?c7 ?k7 ?a8 ?l8 ?c8 ?k8 ?a9 ?l9 ?c9 ?k9 ?a10 ?l10 ?c10 ?k10 ?a11 ?l11 ?c11 ?k11 ?a12 ?l12 ?c12 ?k12 ?a13 ?l13 ?c13 ?k13 ?a14 ?l14 ?c14 ?k14 ?a15 ?l15 ?c15 ?k15 ?a16 ?l16 ?c16 ?k16 ?a17 ?l17 ?c17 ?k17 ?a18 ?l18 ?c18 ?k18 ?a19 ?l19 ?c19 ?k19 ?a20 ?l20 ?c20 ?k20 ?a21 ?l21 ?c21 ?k21 ?a22 ?l22 ?c22 ?k22 ?a23 ?l23 ?c23 ?k23 ?a24 ?l24 ?c24 ?k24 ?a25 ?l25 ?c25 ?k25 ?ca1_ ?ca2_ ?ca3_ ?cl3 ?z1 ?z2 ?z3 ?z4 ?z5 ?z6 ?z7 ?z8 ?z9 ?z10 ?z11 ?z12 ?z13 ?z14 ?z15
    (case a1 => k_is)
    (case l1 => k_is)
    (case c1 => k_is)
    (case k1 => k_is)
    (case a2 => k_is)
    (case l2 => k_is)
    (case c2 => k_is)
    (case k2 => k_is)
    (case a3 => k_is)
    (case l3 => k_is)
    (case c3 => k_is)
    (case k3 => k_is)
    (case a4 => k_is)
    (case l4 => k_is)
    (case c4 => k_is)
    (case k4 => k_is)
    (case a5 => k_is)
    (case l5 => k_is)
    (case c5 => k_is)
    (case k5 => k_is)
    (case a6 => k_is)
    (case l6 => k_is)
    (case c6 => k_is)
    (case k6 => k_is)
    (case a7 => k_is)
    (case l7 => k_is)
    (case c7 => k_is)
    (case k7 => k_is)
    (case a8 => k_is)
    (case l8 => k_is)
    (case c8 => k_is)
    (case k8 => k_is)
    (case a9 => k_is)
    (case l9 => k_is)
    (case c9 => k_is)
    (case k9 => k_is)
    (case a10 => k_is)
    (case l10 => k_is)
    (case c10 => k_is)
    (case k10 => k_is)
    (case a11 => k_is)
    (case l11 => k_is)
    (case c11 => k_is)
    (case k11 => k_is)
    (case a12 => k_is)
    (case l12 => k_is)
    (case c12 => k_is)
    (case k12 => k_is)
    (case a13 => k_is)
    (case l13 => k_is)
    (case c13 => k_is)
    (case k13 => k_is)
    (case a14 => k_is)
    (case l14 => k_is)
    (case c14 => k_is)
    (case k14 => k_is)
    (case a15 => k_is)
    (case l15 => k_is)
    (case c15 => k_is)
    (case k15 => k_is)
    (case a16 => k_is)
    (case l16 => k_is)
    (case c16 => k_is)
    (case k16 => k_is)
    (case a17 => k_is)
    (case l17 => k_is)
    (case c17 => k_is)
    (case k17 => k_is)
    (case a18 => k_is)
    (case l18 => k_is)
    (case c18 => k_is)
    (case k18 => k_is)
    (case a19 => k_is)
    (case l19 => k_is)
    (case c19 => k_is)
    (case k19 => k_is)
    (case a20 => k_is)
    (case l20 => k_is)
    (case c20 => k_is)
    (case k20 => k_is)
    (case a21 => k_is)
    (case l21 => k_is)
    (case c21 => k_is)
    (case k21 => k_is)
    (case a22 => k_is)
    (case l22 => k_is)
    (case c22 => k_is)
    (case k22 => k_is)
    (case a23 => k_is)
    (case l23 => k_is)
    (case c23 => k_is)
    (case k23 => k_is)
    (case a24 => k_is)
    (case l24 => k_is)
    (case c24 => k_is)
    (case k24 => k_is)
    (case a25 => k_is)
    (case l25 => k_is)
    (case c25 => k_is)
    (case k25 => k_is)
    (case ca1_ => k_is)
    (case ca2_ => k_is)
    (case ca3_ => k_is)
    (case cl3 => k_is)
    (case z1 => k_is)
    (case z2 => k_is)
    (case z3 => k_is)
    (case z4 => k_is)
    (case z5 => k_is)
    (case z6 => k_is)
    (case z7 => k_is)
    (case z8 => k_is)
    (case z9 => k_is)
    (case z10 => k_is)
    (case z11 => k_is)
    (case z12 => k_is)
    (case z13 => k_is)
    (case z14 => k_is)
    (case z15 => k_is)
