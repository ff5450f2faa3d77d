import PyProof.Rows.All
import Wide.All
import OpenK.AllK
import Wide.FinOn
import KE.KStateDown
import HandS.ForMost
import HandS.Star
import HandS.IsInst
import HandS.Zip
import HandS.Walk
import HandS.Style
import HandS.Flow
import HandS.Gcd
import HandS.Wide
import HandS.TupAny
import HandS.Deep
import KE.GoesMore
import KE.GoesEnum
import HandS.Head0
import HandS.Head1
import HandS.Head2
import HandS.Defaults
import HandS.HeadEnd
import HandS.HeadHook1
import HandS.HeadHook2
import PySem.Challenge.RW_coilnets_k51_whole_tanks_by_none
section -- FLA
set_option Elab.async false
set_option linter.all false
set_option maxRecDepth 100000
/-! FL: expressions and statements as plain functions of an environment, over the hand layer. -/
noncomputable section
namespace FL
open PySem PySem.Spec PyProof.Rows L2

/-- data without lists -/
inductive D where
  | non | bl (b : Bool) | int (i : Int) | tup (ds : List D)
/-- what a name holds or an expression gives: data, or a list of data (true: a new list; in a slot: an own one) -/
inductive R where
  | d (x : D) | l (o : Bool) (xs : List D)
abbrev Ev := List (Option R)
inductive Out where
  | nx (r : Ev) | rt (r : R) | bk (r : Ev) | ct (r : Ev)

mutual
def Rp (K : PySem.W.Frag) (H : Hp) : D → V → Prop
  | .non, v => v = .non
  | .bl b, v => v = .bl b
  | .int i, v => v = .int i
  | .tup ds, v => ∃ a vs, v = .ref a ∧ SqT K H a vs ∧ Rps K H ds vs
def Rps (K : PySem.W.Frag) (H : Hp) : List D → List V → Prop
  | [], vs => vs = []
  | d :: ds, vs => ∃ v r, vs = v :: r ∧ Rp K H d v ∧ Rps K H ds r
end

/-- the tuples stand -/
def Keep (H H' : Hp) : Prop := ∀ a xs, Rd H a (.tup xs) → Rd H' a (.tup xs)
theorem Keep.refl (H : Hp) : Keep H H := fun _ _ h => h
theorem Keep.trans {H H1 H2 : Hp} (a : Keep H H1) (b : Keep H1 H2) : Keep H H2 := fun c o h => b c o (a c o h)
theorem Keep.of {H H' : Hp} (s : Same H H') : Keep H H' := fun a xs h => by
  rcases h with h | ⟨o, h⟩
  · exact .inl (s _ _ h)
  · exact .inr ⟨o, s _ _ h⟩
theorem Keep.upd {H : Hp} {a : Addr} {xs ys : List V} (h : H a = some (.lst xs)) : Keep H (upd H a (.lst ys)) := fun b zs q => by
  have hb : b ≠ a := by
    intro e
    subst e
    rcases q with q | ⟨o, q⟩
    · rw [h] at q; cases q
    · rw [h] at q; cases q
  rcases q with q | ⟨o, q⟩
  · exact .inl (by rw [upd_ne hb]; exact q)
  · exact .inr ⟨o, by rw [upd_ne hb]; exact q⟩
theorem Keep.seqT {K : PySem.W.Frag} {H H' : Hp} {a : Addr} {xs : List V} (k : Keep H H') (h : SqT K H a xs) : SqT K H' a xs := by
  rcases h with h | h
  · exact .inl (k _ _ h)
  · exact .inr h
theorem same_new {H : Hp} {p : Addr} {o : HO} (h : H p = none) : Same H (upd H p o) := fun b x e => by
  have hb : b ≠ p := ne_of_none e h
  rw [upd_ne hb]
  exact e

mutual
theorem Rp.keep {K : PySem.W.Frag} {H H' : Hp} (k : Keep H H') : ∀ {d : D} {v : V}, Rp K H d v → Rp K H' d v
  | .non, _, h => h
  | .bl _, _, h => h
  | .int _, _, h => h
  | .tup _, _, ⟨a, vs, e, s, r⟩ => ⟨a, vs, e, k.seqT s, Rps.keep k r⟩
theorem Rps.keep {K : PySem.W.Frag} {H H' : Hp} (k : Keep H H') : ∀ {ds : List D} {vs : List V}, Rps K H ds vs → Rps K H' ds vs
  | [], _, h => h
  | _ :: _, _, ⟨v, r, e, h1, h2⟩ => ⟨v, r, e, Rp.keep k h1, Rps.keep k h2⟩
end

theorem Rps.length {K : PySem.W.Frag} {H : Hp} : ∀ {ds : List D} {vs : List V}, Rps K H ds vs → vs.length = ds.length
  | [], _, h => by
    have e : _ = [] := h
    rw [e]
    rfl
  | _ :: _, _, ⟨v, r, e, _, h2⟩ => by
    rw [e, List.length_cons, List.length_cons, Rps.length h2]
theorem Rps.get {K : PySem.W.Frag} {H : Hp} : ∀ {ds : List D} {vs : List V} {i : Nat} {d : D}, Rps K H ds vs → ds[i]? = some d → ∃ v, vs[i]? = some v ∧ Rp K H d v
  | [], _, i, _, _, e => by simp at e
  | d0 :: _, _, 0, d, ⟨v, r, e, h1, _⟩, q => by
    have e2 : d0 = d := Option.some.inj q
    subst e2 e
    exact ⟨v, rfl, h1⟩
  | _ :: ds, _, i + 1, d, ⟨v, r, e, _, h2⟩, q => by
    subst e
    exact Rps.get (ds := ds) (i := i) h2 q
theorem Rps.append {K : PySem.W.Frag} {H : Hp} : ∀ {ds es : List D} {vs ws : List V}, Rps K H ds vs → Rps K H es ws → Rps K H (ds ++ es) (vs ++ ws)
  | [], _, _, _, h, h' => by
    have e : _ = [] := h
    rw [e]
    exact h'
  | _ :: _, _, _, _, ⟨v, r, e, h1, h2⟩, h' => by
    rw [e]
    exact ⟨v, _, rfl, h1, Rps.append h2 h'⟩
theorem Rps.one {K : PySem.W.Frag} {H : Hp} {d : D} {v : V} (h : Rp K H d v) : Rps K H [d] [v] := ⟨v, [], rfl, h, rfl⟩
theorem Rps.drop {K : PySem.W.Frag} {H : Hp} : ∀ {ds : List D} {vs : List V} (n : Nat), Rps K H ds vs → Rps K H (ds.drop n) (vs.drop n)
  | _, _, 0, h => h
  | [], _, n + 1, h => by
    have e : _ = [] := h
    rw [e]
    rfl
  | _ :: _, _, n + 1, ⟨v, r, e, h1, h2⟩ => by
    rw [e]
    exact Rps.drop n h2
theorem Rps.take {K : PySem.W.Frag} {H : Hp} : ∀ {ds : List D} {vs : List V} (n : Nat), Rps K H ds vs → Rps K H (ds.take n) (vs.take n)
  | _, _, 0, h => rfl
  | [], _, n + 1, h => by
    have e : _ = [] := h
    rw [e]
    rfl
  | _ :: _, _, n + 1, ⟨v, r, e, h1, h2⟩ => by
    rw [e]
    exact ⟨v, _, rfl, h1, Rps.take n h2⟩
theorem Rps.set {K : PySem.W.Frag} {H : Hp} {d : D} {v : V} (hd : Rp K H d v) : ∀ {ds : List D} {vs : List V} (n : Nat), Rps K H ds vs → Rps K H (ds.set n d) (vs.set n v)
  | [], _, n, h => by
    have e : _ = [] := h
    rw [e]
    rfl
  | _ :: _, _, 0, ⟨v', r, e, h1, h2⟩ => by
    rw [e]
    exact ⟨v, r, rfl, hd, h2⟩
  | _ :: _, _, n + 1, ⟨v', r, e, h1, h2⟩ => by
    rw [e]
    exact ⟨v', _, rfl, h1, Rps.set hd n h2⟩
theorem Rps.eraseIdx {K : PySem.W.Frag} {H : Hp} : ∀ {ds : List D} {vs : List V} (n : Nat), Rps K H ds vs → Rps K H (ds.eraseIdx n) (vs.eraseIdx n)
  | [], _, n, h => by
    have e : _ = [] := h
    rw [e]
    rfl
  | _ :: _, _, 0, ⟨v', r, e, h1, h2⟩ => by
    rw [e]
    exact h2
  | _ :: _, _, n + 1, ⟨v', r, e, h1, h2⟩ => by
    rw [e]
    exact ⟨v', _, rfl, h1, Rps.eraseIdx n h2⟩
theorem Rps.dropLast {K : PySem.W.Frag} {H : Hp} {ds : List D} {vs : List V} (h : Rps K H ds vs) : Rps K H ds.dropLast vs.dropLast := by
  rw [List.dropLast_eq_take, List.dropLast_eq_take, h.length]
  exact h.take _
theorem Rps.reverse {K : PySem.W.Frag} {H : Hp} : ∀ {ds : List D} {vs : List V}, Rps K H ds vs → Rps K H ds.reverse vs.reverse
  | [], _, h => by
    have e : _ = [] := h
    rw [e]
    rfl
  | _ :: _, _, ⟨v', r, e, h1, h2⟩ => by
    rw [e, List.reverse_cons, List.reverse_cons]
    exact Rps.append (Rps.reverse h2) (Rps.one h1)

/-! ### arguments and results -/
def okA (K : PySem.W.Frag) (H : Hp) : R → V → Prop
  | .d x, v => Rp K H x v
  | .l _ xs, v => ∃ a vs, v = .ref a ∧ H a = some (.lst vs) ∧ Rps K H xs vs
def okR (K : PySem.W.Frag) (H H' : Hp) : R → V → Prop
  | .d x, v => Rp K H' x v
  | .l o xs, v => ∃ a vs, v = .ref a ∧ H' a = some (.lst vs) ∧ Rps K H' xs vs ∧ (o = true → H a = none)
theorem okR.arg {K : PySem.W.Frag} {H H' : Hp} : ∀ {r : R} {v : V}, okR K H H' r v → okA K H' r v
  | .d _, _, h => h
  | .l _ _, _, ⟨a, vs, e, h, q, _⟩ => ⟨a, vs, e, h, q⟩
theorem okA.same {K : PySem.W.Frag} {H H' : Hp} (s : Same H H') : ∀ {r : R} {v : V}, okA K H r v → okA K H' r v
  | .d _, _, h => Rp.keep (.of s) h
  | .l _ _, _, ⟨a, vs, e, h, q⟩ => ⟨a, vs, e, s _ _ h, q.keep (.of s)⟩
theorem okR.same {K : PySem.W.Frag} {H H' H2 : Hp} (s : Same H' H2) : ∀ {r : R} {v : V}, okR K H H' r v → okR K H H2 r v
  | .d _, _, h => Rp.keep (.of s) h
  | .l _ _, _, ⟨a, vs, e, h, q, f⟩ => ⟨a, vs, e, s _ _ h, q.keep (.of s), f⟩
theorem okR.back {K : PySem.W.Frag} {H H1 H' : Hp} (s : Same H H1) : ∀ {r : R} {v : V}, okR K H1 H' r v → okR K H H' r v
  | .d _, _, h => h
  | .l _ _, _, ⟨a, vs, e, h, q, f⟩ => ⟨a, vs, e, h, q, fun z => s.free (f z)⟩

/-! ### the environment -/
def at' (ρ : Ev) : Nat → Option R := List.rec (motive := fun _ => Nat → Option R) (fun _ => none) (fun r _ ih i => Nat.rec (motive := fun _ => Option R) r (fun n _ => ih n) i) ρ
def put (ρ : Ev) : Nat → Option R → Ev := List.rec (motive := fun _ => Nat → Option R → Ev) (fun _ _ => []) (fun r t ih i o => Nat.rec (motive := fun _ => Ev) (o :: t) (fun n _ => r :: ih n o) i) ρ
theorem put_zero {r o : Option R} {t : Ev} : put (r :: t) 0 o = o :: t := rfl
theorem put_succ {r o : Option R} {t : Ev} {n : Nat} : put (r :: t) (n + 1) o = r :: put t n o := rfl
theorem put_eq : ∀ (ρ : Ev) (i : Nat) (o : Option R), put ρ i o = ρ.set i o
  | [], _, _ => rfl
  | _ :: _, 0, _ => rfl
  | r :: t, n + 1, o => by
    rw [put_succ, put_eq t n o]
    rfl
theorem at_get : ∀ {ρ : Ev} {i : Nat} {r : R}, at' ρ i = some r → ρ[i]? = some (some r)
  | [], _, _, h => by cases h
  | _ :: _, 0, _, h => by
    have e : _ = some _ := h
    subst e
    rfl
  | _ :: t, n + 1, r, h => at_get (ρ := t) (i := n) h
theorem at_lt {ρ : Ev} {i : Nat} {r : R} (h : at' ρ i = some r) : i < ρ.length := by
  have e := at_get h
  exact (List.getElem?_eq_some_iff.mp e).1
theorem at_set : ∀ {ρ : Ev} {i j : Nat} {o : Option R} {r : R}, at' (ρ.set i o) j = some r → (j = i ∧ o = some r ∧ i < ρ.length) ∨ (j ≠ i ∧ at' ρ j = some r)
  | [], _, _, _, _, h => by cases h
  | _ :: t, 0, 0, o, r, h => by
    have e : o = some r := h
    exact .inl ⟨rfl, e, by simp⟩
  | _ :: t, 0, j + 1, o, r, h => .inr ⟨by omega, h⟩
  | _ :: t, i + 1, 0, o, r, h => .inr ⟨by omega, h⟩
  | _ :: t, i + 1, j + 1, o, r, h => by
    rcases at_set (ρ := t) (i := i) (j := j) h with ⟨a, b, c⟩ | ⟨a, b⟩
    · exact .inl ⟨by omega, b, by rw [List.length_cons]; omega⟩
    · exact .inr ⟨by omega, b⟩

structure RS (K : PySem.W.Frag) (H0 : Hp) (σ : L2.St) (H : Hp) (ρ : Ev) : Prop where
  same : Same H0 H
  len : σ.length = ρ.length
  pure : ∀ i x, at' ρ i = some (.d x) → ∃ v, σ[i]? = some (some v) ∧ Rp K H x v
  lst : ∀ i o xs, at' ρ i = some (.l o xs) → ∃ a vs, σ[i]? = some (some (.ref a)) ∧ H a = some (.lst vs) ∧ Rps K H xs vs
  own : ∀ i xs a, at' ρ i = some (.l true xs) → σ[i]? = some (some (.ref a)) → H0 a = none ∧ ∀ j o ys, j ≠ i → at' ρ j = some (.l o ys) → σ[j]? ≠ some (some (.ref a))
section
variable {K : PySem.W.Frag} {H0 H H' : Hp} {σ : L2.St} {ρ : Ev}
theorem RS.step (s : Same H H') (h : RS K H0 σ H ρ) : RS K H0 σ H' ρ where
  same := h.same.trans s
  len := h.len
  pure := fun i x e => let ⟨v, a, b⟩ := h.pure i x e; ⟨v, a, b.keep (.of s)⟩
  lst := fun i o xs e => let ⟨a, vs, p, q, r⟩ := h.lst i o xs e; ⟨a, vs, p, s _ _ q, r.keep (.of s)⟩
  own := h.own
theorem RS.val (h : RS K H0 σ H ρ) {i : Nat} {r : R} (e : at' ρ i = some r) : ∃ v, σ[i]? = some (some v) ∧ okA K H r v := by
  cases r with
  | d x => exact h.pure i x e
  | l o xs =>
    obtain ⟨a, vs, p, q, r⟩ := h.lst i o xs e
    exact ⟨.ref a, p, a, vs, rfl, q, r⟩
theorem set_get {σ : L2.St} {i j : Nat} {v : V} (h : i < σ.length) : (σ.set i (some v))[j]? = if j = i then some (some v) else σ[j]? := by
  by_cases e : j = i
  · subst e
    rw [if_pos rfl, List.getElem?_set_self h]
  · rw [if_neg e, List.getElem?_set_ne (Ne.symm e)]
/-- data into a slot -/
theorem RS.setD (h : RS K H0 σ H ρ) {i : Nat} {x : D} {v : V} (r : Rp K H x v) : RS K H0 (σ.set i (some v)) H (ρ.set i (some (.d x))) := by
  refine ⟨h.same, by rw [List.length_set, List.length_set]; exact h.len, fun j y e => ?_, fun j o xs e => ?_, fun j xs a e q => ?_⟩
  · rcases at_set e with ⟨ej, ex, hi⟩ | ⟨nj, e⟩
    · subst ej
      cases ex
      exact ⟨v, by rw [set_get (by rw [h.len]; exact hi), if_pos rfl], r⟩
    · obtain ⟨w, a, b⟩ := h.pure j y e
      exact ⟨w, by rw [List.getElem?_set_ne (Ne.symm nj)]; exact a, b⟩
  · rcases at_set e with ⟨ej, ex, hi⟩ | ⟨nj, e⟩
    · cases ex
    · obtain ⟨a, vs, p, q, r⟩ := h.lst j o xs e
      exact ⟨a, vs, by rw [List.getElem?_set_ne (Ne.symm nj)]; exact p, q, r⟩
  · rcases at_set e with ⟨ej, ex, hi⟩ | ⟨nj, e⟩
    · cases ex
    · rw [List.getElem?_set_ne (Ne.symm nj)] at q
      obtain ⟨n, al⟩ := h.own j xs a e q
      refine ⟨n, fun k o ys nk ek => ?_⟩
      rcases at_set ek with ⟨ej, ex, hi⟩ | ⟨nk2, ek⟩
      · cases ex
      · rw [List.getElem?_set_ne (Ne.symm nk2)]
        exact al k o ys nk ek
/-- a new list into a slot -/
theorem RS.setN (h : RS K H0 σ H ρ) (s : Same H H') {i : Nat} {xs : List D} {a : Addr} {vs : List V} (hn : H a = none) (e1 : H' a = some (.lst vs)) (r : Rps K H' xs vs) :
    RS K H0 (σ.set i (some (.ref a))) H' (ρ.set i (some (.l true xs))) := by
  have h' := h.step s
  refine ⟨h'.same, by rw [List.length_set, List.length_set]; exact h.len, fun j y e => ?_, fun j o ys e => ?_, fun j ys b e q => ?_⟩
  · rcases at_set e with ⟨ej, ex, hi⟩ | ⟨nj, e⟩
    · cases ex
    · obtain ⟨w, p, q⟩ := h'.pure j y e
      exact ⟨w, by rw [List.getElem?_set_ne (Ne.symm nj)]; exact p, q⟩
  · rcases at_set e with ⟨ej, ex, hi⟩ | ⟨nj, e⟩
    · subst ej
      cases ex
      exact ⟨a, vs, by rw [set_get (by rw [h.len]; exact hi), if_pos rfl], e1, r⟩
    · obtain ⟨b, ws, p, q, r⟩ := h'.lst j o ys e
      exact ⟨b, ws, by rw [List.getElem?_set_ne (Ne.symm nj)]; exact p, q, r⟩
  · rcases at_set e with ⟨ej, ex, hi⟩ | ⟨nj, e'⟩
    · subst ej
      cases ex
      rw [set_get (by rw [h.len]; exact hi), if_pos rfl] at q
      cases q
      refine ⟨h.same.free hn, fun k o zs nk ek => ?_⟩
      rcases at_set ek with ⟨ej, ex, hi⟩ | ⟨nk2, ek⟩
      · exact absurd ej nk
      · rw [List.getElem?_set_ne (Ne.symm nk2)]
        obtain ⟨b, ws, p, q, _⟩ := h.lst k o zs ek
        rw [p]
        intro z
        cases z
        rw [hn] at q
        cases q
    · rw [List.getElem?_set_ne (Ne.symm nj)] at q
      obtain ⟨n, al⟩ := h.own j ys b e' q
      refine ⟨n, fun k o zs nk ek => ?_⟩
      rcases at_set ek with ⟨ej, ex, hi⟩ | ⟨nk2, ek⟩
      · subst ej
        rw [set_get (by rw [h.len]; exact hi), if_pos rfl]
        intro z
        cases z
        obtain ⟨b', ws, p, q', _⟩ := h.lst j true ys e'
        rw [p] at q
        cases q
        rw [hn] at q'
        cases q'
      · rw [List.getElem?_set_ne (Ne.symm nk2)]
        exact al k o zs nk ek
def noOwn : Ev → Bool
  | [] => true
  | some (.l true _) :: _ => false
  | _ :: t => noOwn t
theorem noOwn_at : ∀ {ρ : Ev} {i : Nat} {xs : List D}, noOwn ρ = true → at' ρ i = some (.l true xs) → False
  | [], _, _, _, h => by cases h
  | r :: t, 0, xs, n, h => by
    have e : r = some (.l true xs) := h
    subst e
    cases n
  | r :: t, i + 1, xs, n, h => by
    have n' : noOwn t = true := by
      cases r with
      | none => exact n
      | some r =>
        cases r with
        | d _ => exact n
        | l o _ =>
          cases o with
          | true => cases n
          | false => exact n
    exact noOwn_at (ρ := t) (i := i) n' h
/-- a list that is read into a slot, where no slot has an own one -/
theorem RS.setF (h : RS K H0 σ H ρ) (n : noOwn ρ = true) {i : Nat} {xs : List D} {a : Addr} {vs : List V} (e1 : H a = some (.lst vs)) (r : Rps K H xs vs) :
    RS K H0 (σ.set i (some (.ref a))) H (ρ.set i (some (.l false xs))) := by
  refine ⟨h.same, by rw [List.length_set, List.length_set]; exact h.len, fun j y e => ?_, fun j o ys e => ?_, fun j ys b e q => ?_⟩
  · rcases at_set e with ⟨ej, ex, hi⟩ | ⟨nj, e⟩
    · cases ex
    · obtain ⟨w, p, q⟩ := h.pure j y e
      exact ⟨w, by rw [List.getElem?_set_ne (Ne.symm nj)]; exact p, q⟩
  · rcases at_set e with ⟨ej, ex, hi⟩ | ⟨nj, e⟩
    · subst ej
      cases ex
      exact ⟨a, vs, by rw [set_get (by rw [h.len]; exact hi), if_pos rfl], e1, r⟩
    · obtain ⟨b, ws, p, q, r⟩ := h.lst j o ys e
      exact ⟨b, ws, by rw [List.getElem?_set_ne (Ne.symm nj)]; exact p, q, r⟩
  · rcases at_set e with ⟨ej, ex, hi⟩ | ⟨nj, e⟩
    · cases ex
    · exact (noOwn_at n e).elim
/-- an own list changed -/
theorem RS.mut (h : RS K H0 σ H ρ) {i : Nat} {xs ys : List D} {a : Addr} {ws : List V} (e : at' ρ i = some (.l true xs)) (e2 : σ[i]? = some (some (.ref a))) (r : Rps K H ys ws) :
    RS K H0 σ (upd H a (.lst ws)) (ρ.set i (some (.l true ys))) := by
  obtain ⟨hn, al⟩ := h.own i xs a e e2
  obtain ⟨a', vs, p, q, _⟩ := h.lst i true xs e
  rw [e2] at p
  cases p
  have k : Keep H (upd H a (.lst ws)) := .upd q
  refine ⟨fun b o z => ?_, by rw [List.length_set]; exact h.len, fun j y ej => ?_, fun j o zs ej => ?_, fun j zs b ej hb => ?_⟩
  · rw [upd_ne (ne_of_none z hn)]
    exact h.same _ _ z
  · rcases at_set ej with ⟨_, ex, hi⟩ | ⟨nj, ej⟩
    · cases ex
    · obtain ⟨w, p, q⟩ := h.pure j y ej
      exact ⟨w, p, q.keep k⟩
  · rcases at_set ej with ⟨z, ex, hi⟩ | ⟨nj, ej⟩
    · subst z
      cases ex
      exact ⟨a, ws, e2, upd_same, r.keep k⟩
    · obtain ⟨b, us, p, q, s⟩ := h.lst j o zs ej
      have hb : b ≠ a := fun z => by
        subst z
        exact al j o zs nj ej p
      exact ⟨b, us, p, by rw [upd_ne hb]; exact q, s.keep k⟩
  · rcases at_set ej with ⟨z, ex, hi⟩ | ⟨nj, ej⟩
    · subst z
      rw [e2] at hb
      cases hb
      refine ⟨hn, fun k o us nk ek => ?_⟩
      rcases at_set ek with ⟨z, ex, hi⟩ | ⟨nk, ek⟩
      · exact absurd z nk
      · exact al k o us nk ek
    · obtain ⟨n2, al2⟩ := h.own j zs b ej hb
      refine ⟨n2, fun k o us nk ek => ?_⟩
      rcases at_set ek with ⟨z, ex, hi⟩ | ⟨nk2, ek⟩
      · subst z
        exact al2 _ true xs nk e
      · exact al2 k o us nk ek
end
end FL
end
end -- FLA
section -- FLB
set_option Elab.async false
set_option linter.all false
set_option maxRecDepth 100000
noncomputable section
namespace FL
open PySem PySem.Spec PyProof.Rows L2

/-! ### readings that compute -/
def tF (K : PySem.W.Frag) (g : Ev → Option R) : TE := fun σ H Q => ∃ H0 ρ r, RS K H0 σ H ρ ∧ g ρ = some r ∧ ∀ v H', Same H H' → okR K H H' r v → Q v H'
def tT (K : PySem.W.Frag) (c : Ev → Option Bool) : TT := fun σ H Q => ∃ H0 ρ b, RS K H0 σ H ρ ∧ c ρ = some b ∧ ∀ H', Same H H' → Q b H'
def Okas (K : PySem.W.Frag) (H : Hp) : List R → List V → Prop
  | [], vs => vs = []
  | r :: rs, vs => ∃ v w, vs = v :: w ∧ okA K H r v ∧ Okas K H rs w
def tA (K : PySem.W.Frag) (g : Ev → Option (List R)) : TA := fun σ H Q => ∃ H0 ρ rs, RS K H0 σ H ρ ∧ g ρ = some rs ∧ ∀ vs H', Same H H' → Okas K H' rs vs → Q vs H'
abbrev FE (X : Cx) (e : Expr) (g : Ev → Option R) : Prop := PE X e (tF X.K g)
abbrev FT (X : Cx) (e : Expr) (c : Ev → Option Bool) : Prop := PT X e (tT X.K c)
abbrev FA (X : Cx) (es : List Expr) (g : Ev → Option (List R)) : Prop := PA X es (tA X.K g)
theorem Okas.same {K : PySem.W.Frag} {H H' : Hp} (s : Same H H') : ∀ {rs : List R} {vs : List V}, Okas K H rs vs → Okas K H' rs vs
  | [], _, h => h
  | _ :: _, _, ⟨v, w, e, h1, h2⟩ => ⟨v, w, e, h1.same s, Okas.same s h2⟩
theorem Okas.append {K : PySem.W.Frag} {H : Hp} : ∀ {rs qs : List R} {vs ws : List V}, Okas K H rs vs → Okas K H qs ws → Okas K H (rs ++ qs) (vs ++ ws)
  | [], _, _, _, h, h' => by
    have e : _ = [] := h
    rw [e]
    exact h'
  | _ :: _, _, _, _, ⟨v, w, e, h1, h2⟩, h' => by
    rw [e]
    exact ⟨v, _, rfl, h1, Okas.append h2 h'⟩
theorem Okas.length {K : PySem.W.Frag} {H : Hp} : ∀ {rs : List R} {vs : List V}, Okas K H rs vs → vs.length = rs.length
  | [], _, h => by
    have e : _ = [] := h
    rw [e]
    rfl
  | _ :: _, _, ⟨v, w, e, h1, h2⟩ => by rw [e, List.length_cons, List.length_cons, Okas.length h2]
theorem Okas.ofD {K : PySem.W.Frag} {H : Hp} : ∀ {ds : List D} {vs : List V}, Rps K H ds vs → Okas K H (ds.map R.d) vs
  | [], _, h => h
  | _ :: _, _, ⟨v, w, e, h1, h2⟩ => ⟨v, w, e, h1, Okas.ofD h2⟩
def asDs (rs : List R) : Option (List D) := List.rec (motive := fun _ => Option (List D)) (some []) (fun r _ ih => match r with
  | .d x => match ih with
    | some ds => some (x :: ds)
    | none => none
  | .l _ _ => none) rs
theorem asDs_cons {x : D} {rs : List R} : asDs (.d x :: rs) = (match asDs rs with
    | some ds => some (x :: ds)
    | none => none) := rfl
theorem asDs_ok {K : PySem.W.Frag} {H : Hp} : ∀ {rs : List R} {ds : List D} {vs : List V}, asDs rs = some ds → Okas K H rs vs → Rps K H ds vs
  | [], _, _, e, h => by
    cases e
    exact h
  | .d x :: rs, ds, vs, e, ⟨v, w, ev, h1, h2⟩ => by
    rw [asDs_cons] at e
    split at e
    · rename_i es he
      cases e
      exact ⟨v, w, ev, h1, asDs_ok he h2⟩
    · cases e
  | .l _ _ :: _, _, _, e, _ => by cases e

section
variable {X : Cx}
theorem pe_imp {e : Expr} {t t' : TE} (h : PE X e t) (m : ∀ σ H Q, t' σ H Q → t σ H Q) : PE X e t' := ⟨fun pins s σ H Q I w => h.run pins s σ H Q I (m σ H Q w)⟩
theorem pt_imp {e : Expr} {t t' : TT} (h : PT X e t) (m : ∀ σ H Q, t' σ H Q → t σ H Q) : PT X e t' := ⟨fun pins s σ H Q I w => h.run pins s σ H Q I (m σ H Q w)⟩
theorem pa_imp {e : List Expr} {t t' : TA} (h : PA X e t) (m : ∀ σ H Q, t' σ H Q → t σ H Q) : PA X e t' := ⟨fun pos pins s σ H Q I w => h.run pos pins s σ H Q I (m σ H Q w)⟩
theorem ps_imp {e : Stmt} {t t' : TS} (h : PS X e t) (m : ∀ D σ H, t' D σ H → t D σ H) : PS X e t' := ⟨fun pins s σ H D I w => h.run pins s σ H D I (m D σ H w)⟩
theorem pss_imp {e : List Stmt} {t t' : TS} (h : PSs X e t) (m : ∀ D σ H, t' D σ H → t D σ H) : PSs X e t' := ⟨fun pins s σ H D I w => h.run pins s σ H D I (m D σ H w)⟩

/-! ### names and constants -/
def gC (x : D) : Ev → Option R := fun _ => some (.d x)
def gV (i : Nat) : Ev → Option R := fun ρ => match at' ρ i with
  | some (.d x) => some (.d x)
  | some (.l _ xs) => some (.l false xs)
  | none => none
theorem fe_c {e : Expr} {v : V} {x : D} (h : PE X e (tC v)) (r : ∀ H, Rp X.K H x v) : FE X e (gC x) := pe_imp h fun σ H Q ⟨_, _, z, _, e, q⟩ => by
  cases e
  exact q v H (.refl H) (r H)
theorem fe_int {i j pos} : FE X (.Constant (.int i) j pos) (gC (.int i)) := fe_c pe_int fun _ => rfl
theorem fe_bl {b j pos} : FE X (.Constant (.bool b) j pos) (gC (.bl b)) := fe_c pe_bl fun _ => rfl
theorem fe_non {j pos} : FE X (.Constant .none j pos) (gC .non) := fe_c pe_non fun _ => rfl
theorem fe_v {e : Expr} {i : Nat} (h : PE X e (tVar i)) : FE X e (gV i) := pe_imp h fun σ H Q ⟨H0, ρ, z, rs, e, q⟩ => by
  unfold gV at e
  split at e
  · rename_i x hx
    cases e
    obtain ⟨v, hv, r⟩ := rs.pure i x hx
    exact ⟨v, hv, q v H (.refl H) r⟩
  · rename_i o xs hx
    cases e
    obtain ⟨a, vs, p, w, r⟩ := rs.lst i o xs hx
    exact ⟨.ref a, p, q _ H (.refl H) ⟨a, vs, rfl, w, r, fun z => nomatch z⟩⟩
  · cases e

/-! ### operators -/
def g1 (f : R → Option R) (ga : Ev → Option R) : Ev → Option R := fun ρ => match ga ρ with
  | some x => f x
  | none => none
def g2 (f : R → R → Option R) (ga gb : Ev → Option R) : Ev → Option R := fun ρ => match ga ρ with
  | some x => match gb ρ with
    | some y => f x y
    | none => none
  | none => none
theorem g1_inv {f : R → Option R} {ga : Ev → Option R} {ρ : Ev} {z : R} (h : g1 f ga ρ = some z) : ∃ x, ga ρ = some x ∧ f x = some z := by
  unfold g1 at h
  split at h
  · exact ⟨_, by assumption, h⟩
  · cases h
theorem g2_inv {f : R → R → Option R} {ga gb : Ev → Option R} {ρ : Ev} {z : R} (h : g2 f ga gb ρ = some z) : ∃ x y, ga ρ = some x ∧ gb ρ = some y ∧ f x y = some z := by
  unfold g2 at h
  split at h
  · split at h
    · exact ⟨_, _, by assumption, by assumption, h⟩
    · cases h
  · cases h
/-- a rule by values is served by a function -/
def Op2 (K : PySem.W.Frag) (r : R2) (f : R → R → Option R) : Prop := ∀ (x y z : R) (v u : V) (H : Hp) (Q : VK), okA K H x v → okA K H y u → f x y = some z → (∀ w H', Same H H' → okR K H H' z w → Q w H') → r v u H Q
def Op1 (K : PySem.W.Frag) (r : V → Hp → VK → Prop) (f : R → Option R) : Prop := ∀ (x z : R) (v : V) (H : Hp) (Q : VK), okA K H x v → f x = some z → (∀ w H', Same H H' → okR K H H' z w → Q w H') → r v H Q
theorem Op2.t {K : PySem.W.Frag} {r : R2} {f : R → R → Option R} (hs : Op2 K r f) {ga gb : Ev → Option R} (σ : L2.St) (H : Hp) (Q : VK) : tF K (g2 f ga gb) σ H Q → tOp r (tF K ga) (tF K gb) σ H Q := fun ⟨H0, ρ, z, rs, e, q⟩ => by
  obtain ⟨x, y, ea, eb, ef⟩ := g2_inv e
  exact ⟨H0, ρ, x, rs, ea, fun v H1 s1 o1 => ⟨H0, ρ, y, rs.step s1, eb, fun u H2 s2 o2 => hs x y z v u H2 Q (o1.arg.same s2) o2.arg ef fun w H3 s3 o3 => q w H3 ((s1.trans s2).trans s3) (o3.back (s1.trans s2))⟩⟩
variable {a b : Expr} {ga gb : Ev → Option R} {pos : Pos}
theorem fe_op {op : Operator} {r : R2} {f : R → R → Option R} (ho : OpR X (binaryOp op) r) (hs : Op2 X.K r f) (ha : FE X a ga) (hb : FE X b gb) : FE X (.BinOp a op b pos) (g2 f ga gb) := pe_imp (pe_op ho ha hb) hs.t
theorem fe_cmp {op : CmpOp} {r : R2} {f : R → R → Option R} (ho : OpR X (compareOp op) r) (hs : Op2 X.K r f) (ha : FE X a ga) (hb : FE X b gb) (hm : behindInMarks op b = false) : FE X (.Compare a [op] [b] pos) (g2 f ga gb) := pe_imp (pe_cmpR ho ha hb hm) hs.t
theorem fe_ix {r : R2} {f : R → R → Option R} (ho : IxR X r) (hs : Op2 X.K r f) (ha : FE X a ga) (hb : FE X b gb) (hp : PlainIx b) : FE X (.Subscript a b pos) (g2 f ga gb) := pe_imp (pe_ix ho ha hb hp) hs.t
theorem fe_un {op : UnaryOp} {r : V → Hp → VK → Prop} {f : R → Option R} (ho : UnR X (unaryOp op) r) (hs : Op1 X.K r f) (ha : FE X a ga) : FE X (.UnaryOp op a pos) (g1 f ga) := pe_imp (pe_un ho ha) fun σ H Q ⟨H0, ρ, z, rs, e, q⟩ => by
  obtain ⟨x, ea, ef⟩ := g1_inv e
  exact ⟨H0, ρ, x, rs, ea, fun v H1 s1 o1 => hs x z v H1 Q o1.arg ef fun w H3 s3 o3 => q w H3 (s1.trans s3) (o3.back s1)⟩

/-! ### tests -/
def gT (g : Ev → Option R) : Ev → Option Bool := fun ρ => match g ρ with
  | some (.d (.bl b)) => some b
  | _ => none
theorem gT_inv {g : Ev → Option R} {ρ : Ev} {b : Bool} (h : gT g ρ = some b) : g ρ = some (.d (.bl b)) := by
  unfold gT at h
  split at h
  · rename_i b' e
    cases h
    exact e
  · cases h
def gAnd (c d : Ev → Option Bool) : Ev → Option Bool := fun ρ => match c ρ with
  | some true => d ρ
  | r => r
def gOr (c d : Ev → Option Bool) : Ev → Option Bool := fun ρ => match c ρ with
  | some false => d ρ
  | r => r
def gNot (c : Ev → Option Bool) : Ev → Option Bool := fun ρ => match c ρ with
  | some true => some false
  | some false => some true
  | none => none
variable {c d : Ev → Option Bool} {e : Expr} {g : Ev → Option R}
theorem ft_val (h : FE X e g) (he : ∀ whole, isTrue e X.env whole = (do let v ← whole; standAt e.pos; holding [v] (truthy v)) := by intro _; rfl) : FT X e (gT g) := pt_imp (pt_val h he) fun σ H Q ⟨H0, ρ, b, rs, e, q⟩ =>
  ⟨H0, ρ, .d (.bl b), rs, gT_inv e, fun v H1 s1 o1 => ⟨b, o1, q H1 s1⟩⟩
theorem ft_cmp {op : CmpOp} {r : R2} {f : R → R → Option R} (ho : OpR X (compareOp op) r) (hs : Op2 X.K r f) (ha : FE X a ga) (hb : FE X b gb) (hm : behindInMarks op b = false) : FT X (.Compare a [op] [b] pos) (gT (g2 f ga gb)) :=
  pt_imp (pt_cmpR ho ha hb hm) fun σ H Q ⟨H0, ρ, b, rs, e, q⟩ => hs.t σ H _ ⟨H0, ρ, .d (.bl b), rs, gT_inv e, fun v H1 s1 o1 => ⟨b, o1, q H1 s1⟩⟩
theorem fw_and1 (ha : FT X a c) : PW X (.BoolOp .And [a] pos) (tT X.K c) := pw_and1 ha
theorem fw_or1 (ha : FT X a c) : PW X (.BoolOp .Or [a] pos) (tT X.K c) := pw_or1 ha
theorem pw_imp {e : Expr} {t t' : TT} (h : PW X e t) (m : ∀ σ H Q, t' σ H Q → t σ H Q) : PW X e t' := ⟨fun wh pins s σ H Q I w => h.run wh pins s σ H Q I (m σ H Q w)⟩
theorem fw_and {rest : List Expr} (ha : FT X a c) (hb : PW X (.BoolOp .And (b :: rest) pos) (tT X.K d)) : PW X (.BoolOp .And (a :: b :: rest) pos) (tT X.K (gAnd c d)) := pw_imp (pw_and ha hb) fun σ H Q ⟨H0, ρ, k, rs, e, q⟩ => by
  unfold gAnd at e
  split at e
  · rename_i h1
    exact ⟨H0, ρ, true, rs, h1, fun H1 s1 => iteT ⟨H0, ρ, k, rs.step s1, e, fun H2 s2 => q H2 (s1.trans s2)⟩⟩
  · rename_i h1
    cases k with
    | true => exact absurd e h1
    | false => exact ⟨H0, ρ, false, rs, e, fun H1 s1 => iteF (q H1 s1)⟩
theorem fw_or {rest : List Expr} (ha : FT X a c) (hb : PW X (.BoolOp .Or (b :: rest) pos) (tT X.K d)) : PW X (.BoolOp .Or (a :: b :: rest) pos) (tT X.K (gOr c d)) := pw_imp (pw_or ha hb) fun σ H Q ⟨H0, ρ, k, rs, e, q⟩ => by
  unfold gOr at e
  split at e
  · rename_i h1
    exact ⟨H0, ρ, false, rs, h1, fun H1 s1 => iteF ⟨H0, ρ, k, rs.step s1, e, fun H2 s2 => q H2 (s1.trans s2)⟩⟩
  · rename_i h1
    cases k with
    | false => exact absurd e h1
    | true => exact ⟨H0, ρ, true, rs, e, fun H1 s1 => iteT (q H1 s1)⟩
theorem ft_not (ha : FT X a c) : FT X (.UnaryOp .Not a pos) (gNot c) := pt_imp (pt_not ha) fun σ H Q ⟨H0, ρ, k, rs, e, q⟩ => by
  unfold gNot at e
  split at e
  · rename_i h1
    cases e
    exact ⟨H0, ρ, true, rs, h1, fun H1 s1 => q H1 s1⟩
  · rename_i h1
    cases e
    exact ⟨H0, ρ, false, rs, h1, fun H1 s1 => q H1 s1⟩
  · cases e

/-! ### and, or, not, if as values -/
def gAndV (ga gb : Ev → Option R) : Ev → Option R := fun ρ => match ga ρ with
  | some (.d (.bl true)) => gb ρ
  | some (.d (.bl false)) => some (.d (.bl false))
  | _ => none
def gOrV (ga gb : Ev → Option R) : Ev → Option R := fun ρ => match ga ρ with
  | some (.d (.bl false)) => gb ρ
  | some (.d (.bl true)) => some (.d (.bl true))
  | _ => none
def gNotV (ga : Ev → Option R) : Ev → Option R := fun ρ => match ga ρ with
  | some (.d (.bl b)) => some (.d (.bl (!b)))
  | _ => none
def gIf (c : Ev → Option Bool) (ga gb : Ev → Option R) : Ev → Option R := fun ρ => match c ρ with
  | some true => ga ρ
  | some false => gb ρ
  | none => none
theorem fe_and {rest : List Expr} (ha : FE X a ga) (hb : FE X (.BoolOp .And (b :: rest) pos) gb) : FE X (.BoolOp .And (a :: b :: rest) pos) (gAndV ga gb) := pe_imp (pe_and ha hb) fun σ H Q ⟨H0, ρ, z, rs, e, q⟩ => by
  unfold gAndV at e
  split at e
  · rename_i h1
    exact ⟨H0, ρ, _, rs, h1, fun v H1 s1 o1 => ⟨true, o1, iteT ⟨H0, ρ, z, rs.step s1, e, fun w H2 s2 o2 => q w H2 (s1.trans s2) (o2.back s1)⟩⟩⟩
  · rename_i h1
    cases e
    exact ⟨H0, ρ, _, rs, h1, fun v H1 s1 o1 => ⟨false, o1, iteF (q _ H1 s1 rfl)⟩⟩
  · cases e
theorem fe_or {rest : List Expr} (ha : FE X a ga) (hb : FE X (.BoolOp .Or (b :: rest) pos) gb) : FE X (.BoolOp .Or (a :: b :: rest) pos) (gOrV ga gb) := pe_imp (pe_or ha hb) fun σ H Q ⟨H0, ρ, z, rs, e, q⟩ => by
  unfold gOrV at e
  split at e
  · rename_i h1
    exact ⟨H0, ρ, _, rs, h1, fun v H1 s1 o1 => ⟨false, o1, iteF ⟨H0, ρ, z, rs.step s1, e, fun w H2 s2 o2 => q w H2 (s1.trans s2) (o2.back s1)⟩⟩⟩
  · rename_i h1
    cases e
    exact ⟨H0, ρ, _, rs, h1, fun v H1 s1 o1 => ⟨true, o1, iteT (q _ H1 s1 rfl)⟩⟩
  · cases e
theorem fe_one {op} (h : FE X a ga) : FE X (.BoolOp op [a] pos) ga := pe_one h
theorem fe_not (ha : FE X a ga) : FE X (.UnaryOp .Not a pos) (gNotV ga) := pe_imp (pe_not ha) fun σ H Q ⟨H0, ρ, z, rs, e, q⟩ => by
  unfold gNotV at e
  split at e
  · rename_i k h1
    cases e
    exact ⟨H0, ρ, _, rs, h1, fun v H1 s1 o1 => ⟨k, o1, q _ H1 s1 rfl⟩⟩
  · cases e
theorem fe_if {t : Expr} (hc : FT X t c) (ha : FE X a ga) (hb : FE X b gb) : FE X (.IfExp t a b pos) (gIf c ga gb) := pe_imp (pe_ifExp hc ha hb) fun σ H Q ⟨H0, ρ, z, rs, e, q⟩ => by
  unfold gIf at e
  split at e
  · rename_i h1
    exact ⟨H0, ρ, _, rs, h1, fun H1 s1 => iteT ⟨H0, ρ, z, rs.step s1, e, fun w H2 s2 o2 => q w H2 (s1.trans s2) (o2.back s1)⟩⟩
  · rename_i h1
    exact ⟨H0, ρ, _, rs, h1, fun H1 s1 => iteF ⟨H0, ρ, z, rs.step s1, e, fun w H2 s2 o2 => q w H2 (s1.trans s2) (o2.back s1)⟩⟩
  · cases e
/-- a < b < c -/
def gChain (f f' : R → R → Option R) (ga gb gc : Ev → Option R) : Ev → Option R := fun ρ => match ga ρ with
  | some x => match gb ρ with
    | some y => match f x y with
      | some (.d (.bl true)) => (match gc ρ with
        | some w => f' y w
        | none => none)
      | some (.d (.bl false)) => some (.d (.bl false))
      | _ => none
    | none => none
  | none => none
theorem fe_chain {op op' : CmpOp} {r r' : R2} {f f' : R → R → Option R} {e3 : Expr} {gc : Ev → Option R} (ho : OpR X (compareOp op) r) (hs : Op2 X.K r f) (ho' : OpR X (compareOp op') r') (hs' : Op2 X.K r' f') (ha : FE X a ga) (hb : FE X b gb) (hc : FE X e3 gc)
    (hm : lastMarks [op, op'] [b, e3] = false := by with_unfolding_all rfl) : FE X (.Compare a [op, op'] [b, e3] pos) (gChain f f' ga gb gc) := pe_imp (pe_chain ho ho' ha hb hc hm) fun σ H Q ⟨H0, ρ, z, rs, e, q⟩ => by
  unfold gChain at e
  split at e
  · rename_i x hx
    split at e
    · rename_i y hy
      refine ⟨H0, ρ, x, rs, hx, fun v H1 s1 o1 => ⟨H0, ρ, y, rs.step s1, hy, fun u H2 s2 o2 => ?_⟩⟩
      split at e
      · rename_i h1
        split at e
        · rename_i t ht
          refine hs x y _ v u H2 _ (o1.arg.same s2) o2.arg h1 fun w H3 s3 o3 => ⟨true, o3, iteT ⟨H0, ρ, t, rs.step ((s1.trans s2).trans s3), ht, fun w' H4 s4 o4 => ?_⟩⟩
          exact hs' y t z u w' H4 Q (o2.arg.same (s3.trans s4)) o4.arg e fun w5 H5 s5 o5 => q w5 H5 ((((s1.trans s2).trans s3).trans s4).trans s5) (o5.back (((s1.trans s2).trans s3).trans s4))
        · cases e
      · rename_i h1
        cases e
        exact hs x y _ v u H2 _ (o1.arg.same s2) o2.arg h1 fun w H3 s3 o3 => ⟨false, o3, iteF (q _ H3 ((s1.trans s2).trans s3) rfl)⟩
      · cases e
    · cases e
  · cases e

/-! ### argument lists, displays -/
def gNil : Ev → Option (List R) := fun _ => some []
def gCons (ga : Ev → Option R) (gs : Ev → Option (List R)) : Ev → Option (List R) := fun ρ => match ga ρ with
  | some x => match gs ρ with
    | some xs => some (x :: xs)
    | none => none
  | none => none
def items : R → Option (List D)
  | .d (.tup ds) => some ds
  | .l _ ds => some ds
  | _ => none
def appD (ds : List D) (xs : List R) : List R := List.rec (motive := fun _ => List R) xs (fun d _ ih => .d d :: ih) ds
theorem appD_eq (xs : List R) : ∀ ds : List D, appD ds xs = ds.map R.d ++ xs
  | [] => rfl
  | d :: ds => by
    show R.d d :: appD ds xs = _
    rw [appD_eq xs ds]
    rfl
def gStar (ga : Ev → Option R) (gs : Ev → Option (List R)) : Ev → Option (List R) := fun ρ => match ga ρ with
  | some x => match items x with
    | some ds => match gs ρ with
      | some xs => some (appD ds xs)
      | none => none
    | none => none
  | none => none
theorem items_ok {K : PySem.W.Frag} {H : Hp} {x : R} {ds : List D} {v : V} (e : items x = some ds) (h : okA K H x v) : ∃ p vs, v = .ref p ∧ (SqT K H p vs ∨ SqL K H p vs) ∧ Rps K H ds vs := by
  unfold items at e
  split at e
  · cases e
    obtain ⟨a, vs, e1, h1, h2⟩ := h
    exact ⟨a, vs, e1, .inl h1, h2⟩
  · cases e
    obtain ⟨a, vs, e1, h1, h2⟩ := h
    exact ⟨a, vs, e1, .inr (.of h1), h2⟩
  · cases e
theorem fa_nil : FA X [] gNil := pa_imp pa_nil fun σ H Q ⟨_, _, z, _, e, q⟩ => by
  cases e
  exact q [] H (.refl H) rfl
theorem fa_cons {es : List Expr} {gs : Ev → Option (List R)} (ha : FE X a ga) (hr : FA X es gs) (hs : starEach (a :: es) X.env = (false, eval a X.env) :: starEach es X.env := by rfl) : FA X (a :: es) (gCons ga gs) := pa_imp (pa_cons ha hr hs) fun σ H Q ⟨H0, ρ, z, rs, e, q⟩ => by
  unfold gCons at e
  split at e
  · rename_i x hx
    split at e
    · rename_i xs hxs
      cases e
      exact ⟨H0, ρ, x, rs, hx, fun v H1 s1 o1 => ⟨H0, ρ, xs, rs.step s1, hxs, fun vs H2 s2 o2 => q _ H2 (s1.trans s2) ⟨v, vs, rfl, o1.arg.same s2, o2⟩⟩⟩
    · cases e
  · cases e
theorem fa_star {es : List Expr} {gs : Ev → Option (List R)} {p : Pos} (ha : FE X a ga) (hr : FA X es gs) (hs : starEach (.Starred a p :: es) X.env = (true, eval a X.env) :: starEach es X.env := by rfl) : FA X (.Starred a p :: es) (gStar ga gs) := pa_imp (StX.pa_star ha hr hs) fun σ H Q ⟨H0, ρ, z, rs, e, q⟩ => by
  unfold gStar at e
  split at e
  · rename_i x hx
    split at e
    · rename_i ds hds
      split at e
      · rename_i xs hxs
        rw [appD_eq] at e
        cases e
        refine ⟨H0, ρ, x, rs, hx, fun v H1 s1 o1 => ?_⟩
        obtain ⟨p, vs, e1, h1, h2⟩ := items_ok hds o1.arg
        exact ⟨p, vs, e1, h1, H0, ρ, xs, rs.step s1, hxs, fun ws H2 s2 o2 => q _ H2 (s1.trans s2) ((Okas.ofD (h2.keep (.of s2))).append o2)⟩
      · cases e
    · cases e
  · cases e
def lenD (ds : List D) : Nat := List.rec (motive := fun _ => Nat) 0 (fun _ _ ih => Nat.succ ih) ds
theorem lenD_eq : ∀ ds : List D, lenD ds = ds.length
  | [] => rfl
  | d :: ds => by
    show Nat.succ (lenD ds) = _
    rw [lenD_eq ds]
    rfl
def small (ds : List D) : Bool := Nat.ble (lenD ds) 1000
theorem small_eq (ds : List D) : small ds = Nat.ble ds.length 1000 := by
  unfold small
  rw [lenD_eq]
theorem small_ok {ds : List D} (h : small ds = true) : ds.length ≤ sizeLine := by
  rw [small_eq] at h
  have h1 : ds.length ≤ 1000 := Nat.le_of_ble_eq_true h
  exact Nat.le_of_lt (small1000 h1)
def gTup (gs : Ev → Option (List R)) : Ev → Option R := fun ρ => match gs ρ with
  | some rs => match asDs rs with
    | some ds => if small ds then some (.d (.tup ds)) else none
    | none => none
  | none => none
def gLst (gs : Ev → Option (List R)) : Ev → Option R := fun ρ => match gs ρ with
  | some rs => match asDs rs with
    | some ds => if small ds then some (.l true ds) else none
    | none => none
  | none => none
theorem okR_newT {K : PySem.W.Frag} {H H1 : Hp} {p : Addr} {ds : List D} {vs : List V} (n : H1 p = none) (h : Rps K H1 ds vs) : okR K H (upd H1 p (.tup vs)) (.d (.tup ds)) (.ref p) :=
  ⟨p, vs, rfl, .of upd_same, h.keep (.of (same_new n))⟩
theorem okR_newL {K : PySem.W.Frag} {H H1 : Hp} {p : Addr} {ds : List D} {vs : List V} (s : Same H H1) (n : H1 p = none) (h : Rps K H1 ds vs) : okR K H (upd H1 p (.lst vs)) (.l true ds) (.ref p) :=
  ⟨p, vs, rfl, upd_same, h.keep (.of (same_new n)), fun _ => s.free n⟩
theorem fe_tup {es : List Expr} {gs : Ev → Option (List R)} {x1} (h : FA X es gs) : FE X (.Tuple es x1 pos) (gTup gs) := pe_imp (pe_tup h) fun σ H Q ⟨H0, ρ, z, rs, e, q⟩ => by
  unfold gTup at e
  split at e
  · rename_i xs hxs
    split at e
    · rename_i ds hds
      split at e
      · rename_i hz
        cases e
        refine ⟨H0, ρ, xs, rs, hxs, fun vs H1 s1 o1 => ?_⟩
        have h2 := asDs_ok hds o1
        exact ⟨by rw [h2.length]; exact small_ok hz, fun p np => q _ _ (s1.trans (same_new np)) (okR_newT np h2)⟩
      · cases e
    · cases e
  · cases e
theorem fe_lst {es : List Expr} {gs : Ev → Option (List R)} (h : FA X es gs) : FE X (.List es pos) (gLst gs) := pe_imp (pe_lst h) fun σ H Q ⟨H0, ρ, z, rs, e, q⟩ => by
  unfold gLst at e
  split at e
  · rename_i xs hxs
    split at e
    · rename_i ds hds
      split at e
      · rename_i hz
        cases e
        refine ⟨H0, ρ, xs, rs, hxs, fun vs H1 s1 o1 => ?_⟩
        have h2 := asDs_ok hds o1
        exact ⟨by rw [h2.length]; exact small_ok hz, fun p np => q _ _ (s1.trans (same_new np)) (okR_newL s1 np h2)⟩
      · cases e
    · cases e
  · cases e

/-! ### calls -/
def gCall (m : List R → Option R) (gs : Ev → Option (List R)) : Ev → Option R := fun ρ => match gs ρ with
  | some rs => m rs
  | none => none
theorem gCall_inv {m : List R → Option R} {gs : Ev → Option (List R)} {ρ : Ev} {z : R} (h : gCall m gs ρ = some z) : ∃ rs, gs ρ = some rs ∧ m rs = some z := by
  unfold gCall at h
  split at h
  · exact ⟨_, by assumption, h⟩
  · cases h
def CallS (K : PySem.W.Frag) (r : List V → Hp → VK → Prop) (m : List R → Option R) : Prop := ∀ (rs : List R) (z : R) (vs : List V) (H : Hp) (Q : VK), Okas K H rs vs → m rs = some z → (∀ w H', Same H H' → okR K H H' z w → Q w H') → r vs H Q
theorem CallS.t {K : PySem.W.Frag} {r : List V → Hp → VK → Prop} {m : List R → Option R} (hs : CallS K r m) {gs : Ev → Option (List R)} (σ : L2.St) (H : Hp) (Q : VK) : tF K (gCall m gs) σ H Q → tCB r (tA K gs) σ H Q := fun ⟨H0, ρ, z, rs, e, q⟩ => by
  obtain ⟨xs, e1, e2⟩ := gCall_inv e
  exact ⟨H0, ρ, xs, rs, e1, fun vs H1 s1 o1 => hs xs z vs H1 Q o1 e2 fun w H2 s2 o2 => q w H2 (s1.trans s2) (o2.back s1)⟩
variable {x : Str} {p : Pos} {es : List Expr} {gs : Ev → Option (List R)} {r : List V → Hp → VK → Prop} {m : List R → Option R} {id T : String}
theorem fe_callB (hc : CallR X (.builtin id) r) (hs : CallS X.K r m) (hg : Gl X x) (hm : X.mg x = none) (hv : bootBuiltins x = some (.builtin id)) (ha : FA X (e :: es) gs) (hn : x ≠ "__name__" := by decide) (hdb : (x == ("__debug__" : Str)) = false := by decide)
    (he : starEach (e :: es) X.env = (false, eval e X.env) :: starEach es X.env := by rfl) (hpl : (backTo pos (starEach es X.env)).any (·.1) = false := by rfl) : FE X (.Call (.Name x p) (e :: es) [] pos) (gCall m gs) := pe_imp (pe_callB hc hg hm hv ha hn hdb he hpl) hs.t
theorem fe_callTy (hc : CallR X (.type T) r) (hs : CallS X.K r m) (hg : Gl X x) (hm : X.mg x = none) (hv : bootBuiltins x = some (.type T)) (ha : FA X (e :: es) gs) (hn : x ≠ "__name__" := by decide) (hdb : (x == ("__debug__" : Str)) = false := by decide)
    (he : starEach (e :: es) X.env = (false, eval e X.env) :: starEach es X.env := by rfl) (hpl : (backTo pos (starEach es X.env)).any (·.1) = false := by rfl) : FE X (.Call (.Name x p) (e :: es) [] pos) (gCall m gs) := pe_imp (pe_callTy hc hg hm hv ha hn hdb he hpl) hs.t
theorem fe_callBf (hc : CallR X (.builtin id) r) (hs : CallS X.K r m) (hg : Gl X x) (hm : X.mg x = some (.builtin id)) (ha : FA X (e :: es) gs) (hdb : (x == ("__debug__" : Str)) = false := by decide)
    (he : starEach (e :: es) X.env = (false, eval e X.env) :: starEach es X.env := by rfl) (hpl : (backTo pos (starEach es X.env)).any (·.1) = false := by rfl) : FE X (.Call (.Name x p) (e :: es) [] pos) (gCall m gs) := pe_imp (pe_callBfun hc hg hm ha hdb he hpl) hs.t
/-- a def's promise: it computes m -/
def spF (K : PySem.W.Frag) (n : Nat) (m : List R → Option R) : Sp := fun vs H Q _ => ∃ rs z, vs.length = n ∧ Okas K H rs vs ∧ m rs = some z ∧ ∀ v H', Same H H' → okR K H H' z v → Q v H'
structure Fn (P : Program) (w : World) (K : PySem.W.Frag) (mg : Str → Option Value) (base : Heap) (x : Str) (k : Nat) (ps : List Str) (m : List R → Option R) : Prop where
  ar : ∀ rs z, m rs = some z → rs.length = ps.length
  ex : ∃ f fd, FnOk P w K mg base CX0 k f fd ps (spF K ps.length m) ∧ mg x = some (.ref f) ∧ PySem.W.keepIn K (.ref f) = true ∧ Binds K fd ps []
theorem fe_fn {k : Nat} {ps : List Str} (F : Fn X.prog X.w X.K X.mg X.base x k ps m) (hr : Room k X.A) (hg : Gl X x) (ha : FA X (e :: es) gs)
    (hdb : (x == ("__debug__" : Str)) = false := by decide) (he : starEach (e :: es) X.env = (false, eval e X.env) :: starEach es X.env := by rfl) (hpl : (backTo pos (starEach es X.env)).any (·.1) = false := by rfl) :
    FE X (.Call (.Name x p) (e :: es) [] pos) (gCall m gs) := by
  have har := F.ar
  obtain ⟨f, fd, F, hm, hk, hb⟩ := F.ex
  refine pe_imp (pe_call F hr hg hm hk hb .nil pass0 ha hdb he hpl) fun σ H Q ⟨H0, ρ, z, rs, e, q⟩ => ?_
  obtain ⟨xs, e1, e2⟩ := gCall_inv e
  refine ⟨H0, ρ, xs, rs, e1, fun vs H1 s1 o1 => ?_⟩
  show spF X.K ps.length m (vs ++ []) H1 Q E0
  rw [List.append_nil]
  exact ⟨xs, z, o1.length.trans (har xs z e2), o1, e2, fun w H2 s2 o2 => q w H2 (s1.trans s2) (o2.back s1)⟩

/-! ### slices -/
def gPart0 : Ev → Option (Option Int) := fun _ => some none
def gPart (g : Ev → Option R) : Ev → Option (Option Int) := fun ρ => match g ρ with
  | some (.d (.int i)) => some (some i)
  | _ => none
def tO (K : PySem.W.Frag) (g : Ev → Option (Option Int)) : TO := fun σ H Q => ∃ H0 ρ o, RS K H0 σ H ρ ∧ g ρ = some o ∧ ∀ H', Same H H' → Q o H'
theorem po_imp {e : Option Expr} {t t' : TO} (h : PO X e t) (mm : ∀ σ H Q, t' σ H Q → t σ H Q) : PO X e t' := ⟨fun pins s σ H Q I w => h.run pins s σ H Q I (mm σ H Q w)⟩
theorem fo_none : PO X none (tO X.K gPart0) := po_imp po_none fun σ H Q ⟨_, _, z, _, e, q⟩ => by
  cases e
  exact q H (.refl H)
theorem fo_some (h : FE X e g) : PO X (some e) (tO X.K (gPart g)) := po_imp (po_some h) fun σ H Q ⟨H0, ρ, z, rs, e, q⟩ => by
  unfold gPart at e
  split at e
  · rename_i i hi
    cases e
    exact ⟨H0, ρ, _, rs, hi, fun v H1 s1 o1 => ⟨i, o1, q H1 s1⟩⟩
  · cases e
def gSl (f : R → Option Int → Option Int → Option R) (ge : Ev → Option R) (gl gh : Ev → Option (Option Int)) : Ev → Option R := fun ρ => match ge ρ with
  | some x => match gl ρ with
    | some l => match gh ρ with
      | some h => f x l h
      | none => none
    | none => none
  | none => none
def SlS (K : PySem.W.Frag) (r : V → Option Int → Option Int → Hp → VK → Prop) (f : R → Option Int → Option Int → Option R) : Prop := ∀ (x z : R) (l h : Option Int) (v : V) (H : Hp) (Q : VK), okA K H x v → f x l h = some z → (∀ w H', Same H H' → okR K H H' z w → Q w H') → r v l h H Q
theorem fe_slice {rr : V → Option Int → Option Int → Hp → VK → Prop} {f : R → Option Int → Option Int → Option R} {lo hi : Option Expr} {gl gh : Ev → Option (Option Int)} {p2 : Pos} (hr : SlR X rr) (hs : SlS X.K rr f) (he : FE X e g) (hl : PO X lo (tO X.K gl)) (hu : PO X hi (tO X.K gh)) :
    FE X (.Subscript e (.Slice lo hi none p2) pos) (gSl f g gl gh) := pe_imp (pe_slice hr he hl hu) fun σ H Q ⟨H0, ρ, z, rs, e, q⟩ => by
  unfold gSl at e
  split at e
  · rename_i x hx
    split at e
    · rename_i l hl
      split at e
      · rename_i h hh
        exact ⟨H0, ρ, x, rs, hx, fun v H1 s1 o1 => ⟨H0, ρ, l, rs.step s1, hl, fun H2 s2 => ⟨H0, ρ, h, rs.step (s1.trans s2), hh, fun H3 s3 => hs x z l h v H3 Q (o1.arg.same (s2.trans s3)) e fun w H4 s4 o4 => q w H4 (((s1.trans s2).trans s3).trans s4) (o4.back ((s1.trans s2).trans s3))⟩⟩⟩
      · cases e
    · cases e
  · cases e
end
end FL
end
end -- FLB
section -- FLC
set_option Elab.async false
set_option linter.all false
set_option maxRecDepth 100000
noncomputable section
namespace FL
open PySem PySem.Spec PyProof.Rows L2

/-! ### statements -/
def OutOk (K : PySem.W.Frag) (H0 H : Hp) (D : Ends) : Out → Prop
  | .nx ρ => ∀ σ' H', Keep H H' → RS K H0 σ' H' ρ → D.nx σ' H'
  | .bk ρ => ∀ σ' H', Keep H H' → RS K H0 σ' H' ρ → D.bk σ' H'
  | .ct ρ => ∀ σ' H', Keep H H' → RS K H0 σ' H' ρ → D.ct σ' H'
  | .rt r => ∀ v H', Same H0 H' → okR K H0 H' r v → D.rt v H'
theorem OutOk.keep {K : PySem.W.Frag} {H0 H H1 : Hp} {D : Ends} (k : Keep H H1) : ∀ {o : Out}, OutOk K H0 H D o → OutOk K H0 H1 D o
  | .nx _, h => fun σ' H' k' r => h σ' H' (k.trans k') r
  | .bk _, h => fun σ' H' k' r => h σ' H' (k.trans k') r
  | .ct _, h => fun σ' H' k' r => h σ' H' (k.trans k') r
  | .rt _, h => h
def tS (K : PySem.W.Frag) (h : Ev → Option Out) : TS := fun D σ H => ∃ H0 ρ o, RS K H0 σ H ρ ∧ h ρ = some o ∧ OutOk K H0 H D o
abbrev FS (X : Cx) (st : Stmt) (h : Ev → Option Out) : Prop := PS X st (tS X.K h)
abbrev FSs (X : Cx) (st : List Stmt) (h : Ev → Option Out) : Prop := PSs X st (tS X.K h)

def hNil : Ev → Option Out := fun ρ => some (.nx ρ)
def hSeq (h1 h2 : Ev → Option Out) : Ev → Option Out := fun ρ => match h1 ρ with
  | some (.nx ρ1) => h2 ρ1
  | o => o
def hNever : Ev → Option Out := fun _ => none
section
variable {X : Cx} {st : Stmt} {rest : List Stmt} {h1 h2 : Ev → Option Out} {e a b : Expr} {g ga gb : Ev → Option R} {pos : Pos} {c : Ev → Option Bool}
theorem fss_nil : FSs X [] hNil := pss_imp pss_nil fun D σ H ⟨H0, ρ, o, rs, e, q⟩ => by
  cases e
  exact q σ H (.refl H) rs
theorem fss_one (h : FS X st h1) : FSs X [st] h1 := pss_one h
theorem fss_cons (h : FS X st h1) (hr : FSs X rest h2) : FSs X (st :: rest) (hSeq h1 h2) := pss_imp (pss_cons h hr) fun D σ H ⟨H0, ρ, o, rs, e, q⟩ => by
  unfold hSeq at e
  split at e
  · rename_i ρ1 h3
    exact ⟨H0, ρ, .nx ρ1, rs, h3, fun σ' H' k r => ⟨H0, ρ1, o, r, e, q.keep k⟩⟩
  · rename_i o1 hn
    refine ⟨H0, ρ, o, rs, e, ?_⟩
    cases o with
    | nx ρ1 => exact absurd e (hn ρ1)
    | bk _ => exact q
    | ct _ => exact q
    | rt _ => exact q
theorem fs_never : FS X st hNever := ps_imp ps_never fun D σ H ⟨_, _, _, _, e, _⟩ => by cases e
theorem fss_never {sts : List Stmt} : FSs X sts hNever := pss_imp pss_never fun D σ H ⟨_, _, _, _, e, _⟩ => by cases e
def hPass : Ev → Option Out := fun ρ => some (.nx ρ)
def hBrk : Ev → Option Out := fun ρ => some (.bk ρ)
def hCont : Ev → Option Out := fun ρ => some (.ct ρ)
theorem fs_pass : FS X (.Pass pos) hPass := ps_imp ps_pass fun D σ H ⟨_, _, _, rs, e, q⟩ => by
  cases e
  exact q σ H (.refl H) rs
theorem fs_brk : FS X (.Break pos) hBrk := ps_imp ps_break fun D σ H ⟨_, _, _, rs, e, q⟩ => by
  cases e
  exact q σ H (.refl H) rs
theorem fs_cont : FS X (.Continue pos) hCont := ps_imp ps_continue fun D σ H ⟨_, _, _, rs, e, q⟩ => by
  cases e
  exact q σ H (.refl H) rs
def hExpr (g : Ev → Option R) : Ev → Option Out := fun ρ => match g ρ with
  | some _ => some (.nx ρ)
  | none => none
theorem fs_expr (h : FE X e g) (hs : swapsWith e none pos.line X.env = pure false := by rfl) : FS X (.Expr e pos) (hExpr g) := ps_imp (ps_expr h hs) fun D σ H ⟨H0, ρ, o, rs, e, q⟩ => by
  unfold hExpr at e
  split at e
  · rename_i r hr
    cases e
    exact ⟨H0, ρ, r, rs, hr, fun v H1 s1 o1 => q σ H1 (.of s1) (rs.step s1)⟩
  · cases e
def hRet (g : Ev → Option R) : Ev → Option Out := fun ρ => match g ρ with
  | some r => some (.rt r)
  | none => none
theorem fs_ret (h : FE X e g) : FS X (.Return (some e) pos) (hRet g) := ps_imp (ps_ret h) fun D σ H ⟨H0, ρ, o, rs, e, q⟩ => by
  unfold hRet at e
  split at e
  · rename_i r hr
    cases e
    exact ⟨H0, ρ, r, rs, hr, fun v H1 s1 o1 => q v H1 (rs.same.trans s1) (o1.back rs.same)⟩
  · cases e
def hIf (c : Ev → Option Bool) (h1 h2 : Ev → Option Out) : Ev → Option Out := fun ρ => match c ρ with
  | some true => h1 ρ
  | some false => h2 ρ
  | none => none
theorem fs_if {t : Expr} {p q : List Stmt} (hc : FT X t c) (ha : FSs X p h1) (hb : FSs X q h2) : FS X (.If t p q pos) (hIf c h1 h2) := ps_imp (ps_if hc ha hb) fun D σ H ⟨H0, ρ, o, rs, e, q⟩ => by
  unfold hIf at e
  split at e
  · rename_i hc
    exact ⟨H0, ρ, true, rs, hc, fun H1 s1 => iteT ⟨H0, ρ, o, rs.step s1, e, q.keep (.of s1)⟩⟩
  · rename_i hc
    exact ⟨H0, ρ, false, rs, hc, fun H1 s1 => iteF ⟨H0, ρ, o, rs.step s1, e, q.keep (.of s1)⟩⟩
  · cases e

/-! ### stores -/
def stv (i : Nat) (ρ : Ev) : R → Option Ev
  | .d x => some (put ρ i (some (.d x)))
  | .l true xs => some (put ρ i (some (.l true xs)))
  | .l false xs => if noOwn ρ then some (put ρ i (some (.l false xs))) else none
theorem RS.store {K : PySem.W.Frag} {H0 H H' : Hp} {σ : L2.St} {ρ ρ' : Ev} {i : Nat} {v : V} (rs : RS K H0 σ H ρ) (s : Same H H') : ∀ {r : R}, okR K H H' r v → stv i ρ r = some ρ' → RS K H0 (σ.set i (some v)) H' ρ'
  | .d x, h, e => by
    cases e
    rw [put_eq]
    exact (rs.step s).setD h
  | .l true xs, ⟨a, vs, ev, h1, h2, h3⟩, e => by
    cases e
    rw [ev, put_eq]
    exact rs.setN s (h3 rfl) h1 h2
  | .l false xs, ⟨a, vs, ev, h1, h2, _⟩, e => by
    have e' : (if noOwn ρ then some (put ρ i (some (.l false xs))) else none) = some ρ' := e
    split at e'
    · rename_i hn
      cases e'
      rw [ev, put_eq]
      exact (rs.step s).setF hn h1 h2
    · cases e'
def hSet (i : Nat) (g : Ev → Option R) : Ev → Option Out := fun ρ => match g ρ with
  | some r => match stv i ρ r with
    | some ρ' => some (.nx ρ')
    | none => none
  | none => none
theorem set_t {i : Nat} {D : Ends} {σ : L2.St} {H : Hp} {K : PySem.W.Frag} : tS K (hSet i g) D σ H → tAsg (tF K g) (gName i) D σ H := fun ⟨H0, ρ, o, rs, e, q⟩ => by
  unfold hSet at e
  split at e
  · rename_i r hr
    split at e
    · rename_i ρ' hρ
      cases e
      exact ⟨H0, ρ, r, rs, hr, fun v H1 s1 o1 => q _ H1 (.of s1) (rs.store s1 o1 hρ)⟩
    · cases e
  · cases e
theorem fs_set {i : Nat} {x : Str} {pos' : Pos} (hN : X.N.Nodup) (hi : X.N[i]? = some x) (hx : Loc X.env.scope x) (he : FE X e g) (hs : swapsWith e (some (.Name x pos')) pos.line X.env = pure false := by rfl) (hf : X.fn x = true ∨ X.env.scope.names.lookup x = some .local := by first | exact .inl rfl | exact .inr rfl | assumption) :
    FS X (.Assign [.Name x pos'] e pos) (hSet i g) := ps_imp (ps_set hN hi hx he hs hf) fun _ _ _ h => set_t h

/-! ### targets of data -/
inductive Tg where
  | one (i : Nat) | two (i j : Nat)
def asg : Tg → D → Ev → Option Ev
  | .one i, x, ρ => some (put ρ i (some (.d x)))
  | .two i j, .tup [x, y], ρ => some (put (put ρ i (some (.d x))) j (some (.d y)))
  | .two _ _, _, _ => none
def tgR (K : PySem.W.Frag) : Tg → TG
  | .one i => gName i
  | .two i j => L2.gTup K 2 (L2.gCons (gName i) (L2.gCons (gName j) L2.gNil))
def SetIn : Tg → L2.St → L2.St → Prop
  | .one i, σ, σ' => ∃ v, σ' = σ.set i (some v)
  | .two i j, σ, σ' => ∃ v w, σ' = (σ.set i (some v)).set j (some w)
theorem tg_ok {K : PySem.W.Frag} {H0 H : Hp} {σ : L2.St} {ρ ρ' : Ev} {Q : L2.St → Hp → Prop} (rs : RS K H0 σ H ρ) : ∀ {tg : Tg} {d : D} {v : V}, Rp K H d v → asg tg d ρ = some ρ' → (∀ σ', SetIn tg σ σ' → RS K H0 σ' H ρ' → Q σ' H) → tgR K tg v σ H Q
  | .one i, d, v, r, e, q => by
    cases e
    rw [put_eq] at q
    exact q _ ⟨v, rfl⟩ (rs.setD r)
  | .two i j, .tup [x, y], v, ⟨a, vs, ev, st, rv⟩, e, q => by
    cases e
    obtain ⟨v1, r1, e1, p1, v2, r2, e2, p2, e3⟩ := rv
    subst e1 e2
    have e3' : r2 = [] := e3
    subst e3'
    rw [put_eq, put_eq] at q
    exact ⟨a, _, ev, st, rfl, v1, _, rfl, v2, _, rfl, rfl, q _ ⟨v1, v2, rfl⟩ ((rs.setD p1).setD p2)⟩
  | .two i j, .non, _, _, e, _ => by cases e
  | .two i j, .bl _, _, _, e, _ => by cases e
  | .two i j, .int _, _, _, e, _ => by cases e
  | .two i j, .tup [], _, _, e, _ => by cases e
  | .two i j, .tup [_], _, _, e, _ => by cases e
  | .two i j, .tup (_ :: _ :: _ :: _), _, _, e, _ => by cases e
/-- a, b = e -/
def hAsg (tg : Tg) (g : Ev → Option R) : Ev → Option Out := fun ρ => match g ρ with
  | some (.d x) => match asg tg x ρ with
    | some ρ' => some (.nx ρ')
    | none => none
  | _ => none
theorem fs_asg {tgE : Expr} {tg : Tg} (he : FE X e g) (hg : PG X tgE (tgR X.K tg)) (hs : swapsWithSole [tgE] e pos.line X.env = pure false := by rfl) (hw : swappedStores [tgE] e X.env = pure none := by rfl)
    (h1 : (assignEach [tgE] X.env).map (·.2) = [assign tgE X.env] := by rfl) : FS X (.Assign [tgE] e pos) (hAsg tg g) := ps_imp (ps_asg he hg hs hw h1) fun D σ H ⟨H0, ρ, o, rs, e, q⟩ => by
  unfold hAsg at e
  split at e
  · rename_i x hx
    split at e
    · rename_i ρ' hρ
      cases e
      exact ⟨H0, ρ, _, rs, hx, fun v H1 s1 o1 => tg_ok (rs.step s1) o1 hρ fun σ' _ r => q σ' H1 (.of s1) r⟩
    · cases e
  · cases e
/-- a, b = x, y: each value is stored as it is -/
def hPar2 (i j : Nat) (ga gb : Ev → Option R) : Ev → Option Out := fun ρ => match ga ρ with
  | some x => match gb ρ with
    | some y => match stv i ρ x with
      | some ρ1 => match stv j ρ1 y with
        | some ρ2 => some (.nx ρ2)
        | none => none
      | none => none
    | none => none
  | none => none
theorem par2_t {i j : Nat} {D : Ends} {σ : L2.St} {H : Hp} {K : PySem.W.Frag} : tS K (hPar2 i j ga gb) D σ H → tPar i j (tCons (tF K ga) (tCons (tF K gb) tNil)) D σ H := fun ⟨H0, ρ, o, rs, e, q⟩ => by
  unfold hPar2 at e
  split at e
  · rename_i x hx
    split at e
    · rename_i y hy
      split at e
      · rename_i ρ1 h1
        split at e
        · rename_i ρ2 h2
          cases e
          exact ⟨H0, ρ, x, rs, hx, fun v H1 s1 o1 => ⟨H0, ρ, y, rs.step s1, hy, fun w H2 s2 o2 => ⟨v, w, rfl, q _ H2 (.of (s1.trans s2)) ((rs.store s1 o1 h1).store s2 o2 h2)⟩⟩⟩
        · cases e
      · cases e
    · cases e
  · cases e
theorem fs_par {i j : Nat} {x y : Str} {px py pt : Pos} {kt k2 pt2} (hc : X.calm = true) (hN : X.N.Nodup) (hi : X.N[i]? = some x) (hj : X.N[j]? = some y) (hij : i ≠ j)
    (hx : X.env.scope.names.lookup x = some .local) (hy : X.env.scope.names.lookup y = some .local) (ha : FE X a ga) (hb : FE X b gb)
    (hw : swappedStores [.Tuple [.Name x px, .Name y py] kt pt] (.Tuple [a, b] k2 pt2) X.env = pure (some [x, y]))
    (hs : swapsWithSole [.Tuple [.Name x px, .Name y py] kt pt] (.Tuple [a, b] k2 pt2) pos.line X.env = pure false := by rfl)
    (e1 : starEach [a, b] X.env = (false, eval a X.env) :: starEach [b] X.env := by rfl) (e2 : starEach [b] X.env = (false, eval b X.env) :: starEach [] X.env := by rfl) :
    FS X (.Assign [.Tuple [.Name x px, .Name y py] kt pt] (.Tuple [a, b] k2 pt2) pos) (hPar2 i j ga gb) := ps_imp (ps_par hc hN hi hj hij hx hy (pa_cons ha (pa_cons hb pa_nil e2) e1) hw hs) fun _ _ _ h => par2_t h
def hPar3 (i j l : Nat) (ga gb gc : Ev → Option R) : Ev → Option Out := fun ρ => match ga ρ with
  | some x => match gb ρ with
    | some y => match gc ρ with
      | some z => match stv i ρ x with
        | some ρ1 => match stv j ρ1 y with
          | some ρ2 => match stv l ρ2 z with
            | some ρ3 => some (.nx ρ3)
            | none => none
          | none => none
        | none => none
      | none => none
    | none => none
  | none => none
theorem par3_t {i j l : Nat} {gc : Ev → Option R} {D : Ends} {σ : L2.St} {H : Hp} {K : PySem.W.Frag} : tS K (hPar3 i j l ga gb gc) D σ H → tPar3 i j l (tCons (tF K ga) (tCons (tF K gb) (tCons (tF K gc) tNil))) D σ H := fun ⟨H0, ρ, o, rs, e, q⟩ => by
  unfold hPar3 at e
  split at e
  · rename_i x hx
    split at e
    · rename_i y hy
      split at e
      · rename_i z hz
        split at e
        · rename_i ρ1 h1
          split at e
          · rename_i ρ2 h2
            split at e
            · rename_i ρ3 h3
              cases e
              exact ⟨H0, ρ, x, rs, hx, fun v H1 s1 o1 => ⟨H0, ρ, y, rs.step s1, hy, fun w H2 s2 o2 => ⟨H0, ρ, z, rs.step (s1.trans s2), hz, fun u H3 s3 o3 => ⟨v, w, u, rfl, q _ H3 (.of ((s1.trans s2).trans s3)) (((rs.store s1 o1 h1).store s2 o2 h2).store s3 o3 h3)⟩⟩⟩⟩
            · cases e
          · cases e
        · cases e
      · cases e
    · cases e
  · cases e
theorem fs_par3 {i j l : Nat} {x y z : Str} {e3 : Expr} {gc : Ev → Option R} {px py pz pt : Pos} {kt k2 pt2} (hc : X.calm = true) (hN : X.N.Nodup) (hi : X.N[i]? = some x) (hj : X.N[j]? = some y) (hl : X.N[l]? = some z) (hij : i ≠ j) (hil : i ≠ l) (hjl : j ≠ l)
    (hx : X.env.scope.names.lookup x = some .local) (hy : X.env.scope.names.lookup y = some .local) (hz : X.env.scope.names.lookup z = some .local) (ha : FE X a ga) (hb : FE X b gb) (h3 : FE X e3 gc)
    (hw : swappedStores [.Tuple [.Name x px, .Name y py, .Name z pz] kt pt] (.Tuple [a, b, e3] k2 pt2) X.env = pure (some [x, y, z]))
    (hs : swapsWithSole [.Tuple [.Name x px, .Name y py, .Name z pz] kt pt] (.Tuple [a, b, e3] k2 pt2) pos.line X.env = pure false := by rfl)
    (e1 : starEach [a, b, e3] X.env = (false, eval a X.env) :: starEach [b, e3] X.env := by rfl) (e2 : starEach [b, e3] X.env = (false, eval b X.env) :: starEach [e3] X.env := by rfl) (e4 : starEach [e3] X.env = (false, eval e3 X.env) :: starEach [] X.env := by rfl) :
    FS X (.Assign [.Tuple [.Name x px, .Name y py, .Name z pz] kt pt] (.Tuple [a, b, e3] k2 pt2) pos) (hPar3 i j l ga gb gc) := ps_imp (ps_par3 hc hN hi hj hl hij hil hjl hx hy hz (pa_cons ha (pa_cons hb (pa_cons h3 pa_nil e4) e2) e1) hw hs) fun _ _ _ h => par3_t h

/-! ### while -/
def whileF (c : Ev → Option Bool) (b : Ev → Option Out) (f : Nat) : Ev → Option Out := Nat.rec (motive := fun _ => Ev → Option Out) (fun _ => none) (fun _ ih ρ => match c ρ with
    | some true => match b ρ with
      | some (.nx ρ') => ih ρ'
      | some (.ct ρ') => ih ρ'
      | some (.bk ρ') => some (.nx ρ')
      | some (.rt r) => some (.rt r)
      | none => none
    | some false => some (.nx ρ)
    | none => none) f
theorem whileF_succ {c : Ev → Option Bool} {b : Ev → Option Out} {n : Nat} {ρ : Ev} : whileF c b (n + 1) ρ = (match c ρ with
    | some true => match b ρ with
      | some (.nx ρ') => whileF c b n ρ'
      | some (.ct ρ') => whileF c b n ρ'
      | some (.bk ρ') => some (.nx ρ')
      | some (.rt r) => some (.rt r)
      | none => none
    | some false => some (.nx ρ)
    | none => none) := rfl
def hWhile (n : Nat) (c : Ev → Option Bool) (b : Ev → Option Out) : Ev → Option Out := whileF c b n
theorem fs_while (n : Nat) {t : Expr} {body : List Stmt} (hp : PassesOwn (model X.prog X.w) X.A X.env X.xe) (hc : FT X t c) (hb : FSs X body h1) : FS X (.While t body [] pos) (hWhile n c h1) := ps_imp (ps_while hp hc hb) fun D σ H ⟨H0, ρ, o, rs, e, q⟩ => by
  refine ⟨fun m σ' H' => ∃ ρ', RS X.K H0 σ' H' ρ' ∧ Keep H H' ∧ whileF c h1 m ρ' = some o, ⟨n, ρ, rs, .refl H, e⟩, ?_⟩
  rintro m σ' H' ⟨ρ', rs', k', e'⟩
  cases m with
  | zero => cases e'
  | succ m =>
    rw [whileF_succ] at e'
    split at e'
    · rename_i hc
      refine ⟨H0, ρ', true, rs', hc, fun H1 s1 => iteT ?_⟩
      refine ⟨fun σ2 H2 => ∃ ρ2, RS X.K H0 σ2 H2 ρ2 ∧ Keep H H2 ∧ whileF c h1 m ρ2 = some o, fun σ2 H2 w => ⟨m, Nat.lt_succ_self m, w⟩, ?_⟩
      split at e'
      · rename_i ρ2 hb
        exact ⟨H0, ρ', _, rs'.step s1, hb, fun σ3 H3 k3 r3 => ⟨ρ2, r3, (k'.trans (.of s1)).trans k3, e'⟩⟩
      · rename_i ρ2 hb
        exact ⟨H0, ρ', _, rs'.step s1, hb, fun σ3 H3 k3 r3 => ⟨ρ2, r3, (k'.trans (.of s1)).trans k3, e'⟩⟩
      · rename_i ρ2 hb
        cases e'
        exact ⟨H0, ρ', _, rs'.step s1, hb, fun σ3 H3 k3 r3 => q σ3 H3 ((k'.trans (.of s1)).trans k3) r3⟩
      · rename_i r hb
        cases e'
        exact ⟨H0, ρ', _, rs'.step s1, hb, q⟩
      · cases e'
    · rename_i hc
      cases e'
      exact ⟨H0, ρ', false, rs', hc, fun H1 s1 => iteF (q σ' H1 (k'.trans (.of s1)) (rs'.step s1))⟩
    · cases e'

/-! ### what a for or a comprehension walks -/
/-- J walks the data xs while the heap stands by S -/
def IterOk (K : PySem.W.Frag) (S : Hp → Hp → Prop) (J : It) (H : Hp) (xs : List D) : Prop :=
  ∃ (G : Hp → Prop) (Y : Nat → Hp → V → Hp → Prop), Walk J xs.length G Y ∧ (∀ H', S H H' → G H') ∧ ∀ i H1 x H2, i < xs.length → S H H1 → Y i H1 x H2 → Same H1 H2 ∧ ∃ d, xs[i]? = some d ∧ Rp K H2 d x
def tI (K : PySem.W.Frag) (S : Hp → Hp → Prop) (gi : Ev → Option (List D)) : TI := fun σ H Q => ∃ H0 ρ xs, RS K H0 σ H ρ ∧ gi ρ = some xs ∧ ∀ J H', Same H H' → IterOk K S J H' xs → Q J H'
theorem pi_imp {tg e : Expr} {t t' : TI} (h : PI X tg e t) (m : ∀ σ H Q, t' σ H Q → t σ H Q) : PI X tg e t' := ⟨fun pins s σ H Q I w => h.run pins s σ H Q I (m σ H Q w)⟩
theorem IterOk.weak {K : PySem.W.Frag} {J : It} {H : Hp} {xs : List D} : IterOk K Keep J H xs → IterOk K Same J H xs := fun ⟨G, Y, w, g, y⟩ => ⟨G, Y, w, fun H' s => g H' (.of s), fun i H1 x H2 hi s q => y i H1 x H2 hi (.of s) q⟩
/-- what a for walks, a comprehension walks as well -/
theorem fi_weak {tg e : Expr} {gi : Ev → Option (List D)} (h : PI X tg e (tI X.K Keep gi)) : PI X tg e (tI X.K Same gi) := pi_imp h fun σ H Q ⟨H0, ρ, xs, rs, e, q⟩ => ⟨H0, ρ, xs, rs, e, fun J H' s i => q J H' s i.weak⟩
def gItT (g : Ev → Option R) : Ev → Option (List D) := fun ρ => match g ρ with
  | some (.d (.tup ds)) => some ds
  | _ => none
def gItL (g : Ev → Option R) : Ev → Option (List D) := fun ρ => match g ρ with
  | some (.l _ ds) => some ds
  | _ => none
theorem fi_tup {tg : Expr} (h : FE X e g) : PI X tg e (tI X.K Keep (gItT g)) := pi_imp (pi_tup h) fun σ H Q ⟨H0, ρ, xs, rs, e, q⟩ => by
  unfold gItT at e
  split at e
  · rename_i ds hds
    cases e
    refine ⟨H0, ρ, _, rs, hds, fun v H1 s1 o1 => ?_⟩
    obtain ⟨p, vs, ev, st, rv⟩ := o1
    refine ⟨p, ev, ⟨vs, st⟩, q _ H1 s1 ⟨_, _, by rw [← rv.length]; exact walk_tup (xs := vs), fun H' k => k.seqT st, fun i H2 x H3 hi k y => ?_⟩⟩
    obtain ⟨rfl, e2⟩ := y
    refine ⟨.refl _, ?_⟩
    have hd : xs[i]? = some xs[i] := List.getElem?_eq_getElem hi
    obtain ⟨v', ev', r'⟩ := (rv.keep k).get hd
    rw [e2] at ev'
    cases ev'
    exact ⟨_, hd, r'⟩
  · cases e
theorem fi_list {tg : Expr} (h : FE X e g) : PI X tg e (tI X.K Same (gItL g)) := pi_imp (pi_list h) fun σ H Q ⟨H0, ρ, xs, rs, e, q⟩ => by
  unfold gItL at e
  split at e
  · rename_i o ds hds
    cases e
    refine ⟨H0, ρ, _, rs, hds, fun v H1 s1 o1 => ?_⟩
    obtain ⟨p, vs, ev, st, rv, _⟩ := o1
    refine ⟨p, ev, ⟨vs, .of st⟩, q _ H1 s1 ⟨_, _, by rw [← rv.length]; exact walk_list (xs := vs), fun H' k => SqL.of (k _ _ st), fun i H2 x H3 hi k y => ?_⟩⟩
    obtain ⟨rfl, e2⟩ := y
    refine ⟨.refl _, ?_⟩
    have hd : xs[i]? = some xs[i] := List.getElem?_eq_getElem hi
    obtain ⟨v', ev', r'⟩ := (rv.keep (.of k)).get hd
    rw [e2] at ev'
    cases ev'
    exact ⟨_, hd, r'⟩
  · cases e

/-! ### for -/
def forF (tg : Tg) (b : Ev → Option Out) (ds : List D) : Ev → Option Out := List.rec (motive := fun _ => Ev → Option Out) (fun ρ => some (.nx ρ)) (fun d _ ih ρ => match asg tg d ρ with
    | some ρ1 => match b ρ1 with
      | some (.nx ρ') => ih ρ'
      | some (.ct ρ') => ih ρ'
      | some (.bk ρ') => some (.nx ρ')
      | some (.rt r) => some (.rt r)
      | none => none
    | none => none) ds
theorem forF_cons {tg : Tg} {b : Ev → Option Out} {d : D} {ds : List D} {ρ : Ev} : forF tg b (d :: ds) ρ = (match asg tg d ρ with
    | some ρ1 => match b ρ1 with
      | some (.nx ρ') => forF tg b ds ρ'
      | some (.ct ρ') => forF tg b ds ρ'
      | some (.bk ρ') => some (.nx ρ')
      | some (.rt r) => some (.rt r)
      | none => none
    | none => none) := rfl
def hFor (tg : Tg) (gi : Ev → Option (List D)) (b : Ev → Option Out) : Ev → Option Out := fun ρ => match gi ρ with
  | some ds => forF tg b ds ρ
  | none => none
theorem fs_for {tgE iter : Expr} {body : List Stmt} {gi : Ev → Option (List D)} {tg : Tg} (hp : PassesOwn (model X.prog X.w) X.A X.env X.xe) (hc : X.calm = true) (hi : PI X tgE iter (tI X.K Keep gi)) (hg : PG X tgE (tgR X.K tg)) (hb : FSs X body h1)
    (hs : ∀ x, foldedSetIterable iter X.env x = pure x := by intro _; rfl) : FS X (.For tgE iter body [] pos) (hFor tg gi h1) := ps_imp (ps_for hp hc hi hg hb hs) fun D σ H ⟨H0, ρ, o, rs, e, q⟩ => by
  unfold hFor at e
  split at e
  · rename_i ds hds
    refine ⟨H0, ρ, ds, rs, hds, fun J H1 s1 io => ?_⟩
    obtain ⟨G, Y, w, hG, hY⟩ := io
    refine for_it w (fun i σ' H' => ∃ ρ', RS X.K H0 σ' H' ρ' ∧ Keep H1 H' ∧ forF tg h1 (ds.drop i) ρ' = some o) ⟨ρ, rs.step s1, .refl _, e⟩ (fun i σ' H' _ ⟨_, _, k, _⟩ => hG H' k) (fun i x σ' H' H2 hi ⟨ρ', rs', k', e'⟩ y => ?_) fun σ' H' ⟨ρ', rs', k', e'⟩ => ?_
    · obtain ⟨s2, d, hd, rd⟩ := hY i H' x H2 hi k' y
      have hdr : ds.drop i = d :: ds.drop (i + 1) := by
        rw [List.drop_eq_getElem_cons hi]
        have hd2 : ds[i]? = some ds[i] := List.getElem?_eq_getElem hi
        rw [hd2] at hd
        cases hd
        rfl
      rw [hdr] at e'
      rw [forF_cons] at e'
      split at e'
      · rename_i ρ1 hρ1
        refine tg_ok (rs'.step s2) rd hρ1 fun σ3 _ r3 => ?_
        split at e'
        · rename_i ρ2 hb
          exact ⟨H0, ρ1, _, r3, hb, fun σ4 H4 k4 r4 => ⟨ρ2, r4, (k'.trans (.of s2)).trans k4, e'⟩⟩
        · rename_i ρ2 hb
          exact ⟨H0, ρ1, _, r3, hb, fun σ4 H4 k4 r4 => ⟨ρ2, r4, (k'.trans (.of s2)).trans k4, e'⟩⟩
        · rename_i ρ2 hb
          cases e'
          exact ⟨H0, ρ1, _, r3, hb, fun σ4 H4 k4 r4 => q σ4 H4 ((((Keep.of s1).trans k').trans (.of s2)).trans k4) r4⟩
        · rename_i r hb
          cases e'
          exact ⟨H0, ρ1, _, r3, hb, q⟩
        · cases e'
      · cases e'
    · rw [List.drop_length] at e'
      cases e'
      exact q σ' H' ((Keep.of s1).trans k') rs'
  · cases e

/-! ### comprehensions -/
theorem wipe_get {σ : L2.St} {k : Nat} : ∀ (vs : List Nat), (wipe σ vs)[k]? = if k ∈ vs then (if k < σ.length then some none else none) else σ[k]?
  | [] => by
    rw [if_neg (by simp)]
    rfl
  | v :: vs => by
    show ((wipe σ vs).set v none)[k]? = _
    by_cases hk : k = v
    · subst hk
      rw [if_pos (by simp)]
      by_cases hl : k < σ.length
      · rw [if_pos hl, List.getElem?_set_self (by rw [wipe_length]; exact hl)]
      · rw [if_neg hl, List.getElem?_eq_none (by rw [List.length_set, wipe_length]; omega)]
    · rw [List.getElem?_set_ne (Ne.symm hk), wipe_get vs]
      have e : (k ∈ v :: vs) ↔ (k ∈ vs) := by simp [hk]
      by_cases hm : k ∈ vs
      · rw [if_pos hm, if_pos (e.mpr hm)]
      · rw [if_neg hm, if_neg (fun z => hm (e.mp z))]
theorem wipe_set {σ : L2.St} {i : Nat} {v : Option V} {vs : List Nat} (hi : i ∈ vs) : wipe (σ.set i v) vs = wipe σ vs := by
  apply List.ext_getElem?
  intro k
  rw [wipe_get, wipe_get, List.length_set]
  by_cases hk : k ∈ vs
  · rw [if_pos hk, if_pos hk]
  · rw [if_neg hk, if_neg hk]
    have hik : i ≠ k := fun z => hk (z ▸ hi)
    rw [List.getElem?_set_ne hik]
theorem wipe_wipe {σ : L2.St} {vs : List Nat} : wipe (wipe σ vs) vs = wipe σ vs := by
  apply List.ext_getElem?
  intro k
  rw [wipe_get, wipe_length, wipe_get]
  by_cases hk : k ∈ vs
  · rw [if_pos hk, if_pos hk]
  · rw [if_neg hk, if_neg hk]
def tgIn : Tg → List Nat → Bool
  | .one i, vs => vs.contains i
  | .two i j, vs => vs.contains i && vs.contains j
theorem wipe_in {tg : Tg} {σ σ' : L2.St} {vs : List Nat} (h : tgIn tg vs = true) (s : SetIn tg (wipe σ vs) σ') : wipe σ' vs = wipe σ vs := by
  cases tg with
  | one i =>
    obtain ⟨v, rfl⟩ := s
    have hi : i ∈ vs := by simpa [tgIn] using h
    rw [wipe_set hi, wipe_wipe]
  | two i j =>
    obtain ⟨v, w, rfl⟩ := s
    have hij : i ∈ vs ∧ j ∈ vs := by simpa [tgIn] using h
    rw [wipe_set hij.2, wipe_set hij.1, wipe_wipe]
def wipeE (ρ : Ev) (vs : List Nat) : Ev := List.rec (motive := fun _ => Ev) ρ (fun v _ ih => put ih v none) vs
theorem wipeE_cons {ρ : Ev} {v : Nat} {vs : List Nat} : wipeE ρ (v :: vs) = put (wipeE ρ vs) v none := rfl
theorem RS.unset {K : PySem.W.Frag} {H0 H : Hp} {σ : L2.St} {ρ : Ev} (h : RS K H0 σ H ρ) (i : Nat) : RS K H0 (σ.set i none) H (ρ.set i none) := by
  have at2 : ∀ {j r}, at' (ρ.set i none) j = some r → j ≠ i ∧ at' ρ j = some r := fun {j r} e => by
    rcases at_set e with ⟨_, z, _⟩ | z
    · cases z
    · exact z
  refine ⟨h.same, by rw [List.length_set, List.length_set]; exact h.len, fun j y e => ?_, fun j o xs e => ?_, fun j xs a e q => ?_⟩
  · obtain ⟨nj, e⟩ := at2 e
    obtain ⟨w, p, q⟩ := h.pure j y e
    exact ⟨w, by rw [List.getElem?_set_ne (Ne.symm nj)]; exact p, q⟩
  · obtain ⟨nj, e⟩ := at2 e
    obtain ⟨b, ws, p, q, r⟩ := h.lst j o xs e
    exact ⟨b, ws, by rw [List.getElem?_set_ne (Ne.symm nj)]; exact p, q, r⟩
  · obtain ⟨nj, e⟩ := at2 e
    rw [List.getElem?_set_ne (Ne.symm nj)] at q
    obtain ⟨n, al⟩ := h.own j xs a e q
    refine ⟨n, fun k o ys nk ek => ?_⟩
    obtain ⟨nk2, ek⟩ := at2 ek
    rw [List.getElem?_set_ne (Ne.symm nk2)]
    exact al k o ys nk ek
theorem RS.wipe {K : PySem.W.Frag} {H0 H : Hp} {σ : L2.St} {ρ : Ev} (h : RS K H0 σ H ρ) : ∀ vs : List Nat, RS K H0 (L2.wipe σ vs) H (wipeE ρ vs)
  | [] => h
  | v :: vs => by
    rw [wipeE_cons, put_eq]
    exact (RS.wipe h vs).unset v
def compF (tg : Tg) (c : Ev → Option Bool) (g : Ev → Option R) (ρ : Ev) (ds : List D) : Option (List D) := List.rec (motive := fun _ => Option (List D)) (some []) (fun d _ ih => match asg tg d ρ with
    | some ρ1 => match c ρ1 with
      | some true => match g ρ1 with
        | some (.d y) => match ih with
          | some ys => some (y :: ys)
          | none => none
        | _ => none
      | some false => ih
      | none => none
    | none => none) ds
theorem compF_cons {tg : Tg} {c : Ev → Option Bool} {g : Ev → Option R} {ρ : Ev} {d : D} {ds : List D} : compF tg c g ρ (d :: ds) = (match asg tg d ρ with
    | some ρ1 => match c ρ1 with
      | some true => match g ρ1 with
        | some (.d y) => match compF tg c g ρ ds with
          | some ys => some (y :: ys)
          | none => none
        | _ => none
      | some false => compF tg c g ρ ds
      | none => none
    | none => none) := rfl
def gComp (gi : Ev → Option (List D)) (tg : Tg) (c : Ev → Option Bool) (g : Ev → Option R) (vs : List Nat) : Ev → Option R := fun ρ => match gi ρ with
  | some ds => if small ds then (match compF tg c g (wipeE ρ vs) ds with
    | some ys => some (.l true ys)
    | none => none) else none
  | none => none
theorem compF_len {tg : Tg} {c : Ev → Option Bool} {g : Ev → Option R} {ρ : Ev} : ∀ {ds ys : List D}, compF tg c g ρ ds = some ys → ys.length ≤ ds.length
  | [], ys, h => by
    cases h
    exact Nat.le_refl _
  | d :: ds, ys, h => by
    rw [compF_cons] at h
    split at h
    · split at h
      · split at h
        · split at h
          · rename_i h3
            cases h
            have := compF_len h3
            simp only [List.length_cons]
            omega
          · cases h
        · cases h
      · have := compF_len h
        simp only [List.length_cons]
        omega
      · cases h
    · cases h
def cYes : Ev → Option Bool := fun _ => some true
theorem comp_t {K : PySem.W.Frag} {gi : Ev → Option (List D)} {tg : Tg} {vs : List Nat} (hin : tgIn tg vs = true) (σ : L2.St) (H : Hp) (Q : VK) : tF K (gComp gi tg c g vs) σ H Q → tLc (tI K Same gi) (tgR K tg) (tT K c) (tF K g) vs σ H Q := fun ⟨H0, ρ, z, rs, e, q⟩ => by
  unfold gComp at e
  split at e
  · rename_i ds hds
    split at e
    · rename_i hsm
      split at e
      · rename_i ys hys
        cases e
        refine ⟨H0, ρ, ds, rs, hds, fun J H1 s1 io D hD => ?_⟩
        obtain ⟨G, Y, w, hG, hY⟩ := io
        refine lc_it w (fun i H' => Same H1 H' ∧ ∃ acc done rest, H' D = some (.lst acc) ∧ Rps K H' done acc ∧ compF tg c g (wipeE ρ vs) (ds.drop i) = some rest ∧ done ++ rest = ys)
          ⟨same_new hD, [], [], ys, upd_same, rfl, hys, rfl⟩ (fun i H' _ ⟨s, _⟩ => hG H' s) (fun i x H' H2 hi ⟨s', acc, done, rest, hacc, racc, hr, hy⟩ y => ?_) fun H' ⟨s', acc, done, rest, hacc, racc, hr, hy⟩ => ?_
        · obtain ⟨s2, d, hd, rd⟩ := hY i H' x H2 hi s' y
          have hdr : ds.drop i = d :: ds.drop (i + 1) := by
            rw [List.drop_eq_getElem_cons hi]
            have hd2 : ds[i]? = some ds[i] := List.getElem?_eq_getElem hi
            rw [hd2] at hd
            cases hd
            rfl
          have hlen := compF_len hys
          rw [hdr] at hr
          rw [compF_cons] at hr
          have rs2 : RS K H0 (wipe σ vs) H2 (wipeE ρ vs) := (rs.step ((s1.trans s').trans s2)).wipe vs
          split at hr
          · rename_i ρ1 hρ1
            refine tg_ok rs2 rd hρ1 fun σ3 hset r3 => ⟨wipe_in hin hset, ?_⟩
            split at hr
            · rename_i hc
              refine ⟨H0, ρ1, true, r3, hc, fun H3 s3 => iteT ?_⟩
              split at hr
              · rename_i yv hyv
                split at hr
                · rename_i ys2 hys2
                  cases hr
                  refine ⟨H0, ρ1, _, r3.step s3, hyv, fun v H4 s4 o4 => ⟨acc, s4 _ _ (s3 _ _ (s2 _ _ hacc)), ?_, ?_, acc ++ [v], done ++ [yv], ys2, upd_same, ?_, hys2, ?_⟩⟩
                  · have e1 : acc.length = done.length := racc.length
                    have e2 : done.length ≤ ys.length := by
                      rw [← hy, List.length_append]
                      exact Nat.le_add_right _ _
                    have e3 : ds.length ≤ 1000 := Nat.le_of_ble_eq_true (by rw [← small_eq]; exact hsm)
                    exact small1000 (by omega)
                  · have s14 : Same H1 H4 := ((s'.trans s2).trans s3).trans s4
                    exact fun b o z => by
                      rw [upd_ne (ne_of_none z hD)]
                      exact s14 _ _ z
                  · have k4 : Keep H' (upd H4 D (.lst (acc ++ [v]))) := (Keep.of ((s2.trans s3).trans s4)).trans (.upd (s4 _ _ (s3 _ _ (s2 _ _ hacc))))
                    refine (racc.keep k4).append (.one ?_)
                    exact Rp.keep (.upd (s4 _ _ (s3 _ _ (s2 _ _ hacc)))) o4
                  · rw [List.append_assoc]
                    exact hy
                · cases hr
              · cases hr
            · rename_i hc
              refine ⟨H0, ρ1, false, r3, hc, fun H3 s3 => iteF ?_⟩
              exact ⟨(s'.trans s2).trans s3, acc, done, rest, s3 _ _ (s2 _ _ hacc), racc.keep (.of (s2.trans s3)), hr, hy⟩
            · cases hr
          · cases hr
        · rw [List.drop_length] at hr
          cases hr
          rw [List.append_nil] at hy
          subst hy
          exact q _ H' (s1.trans s') ⟨D, acc, rfl, hacc, racc, fun _ => s1.free hD⟩
      · cases e
    · cases e
  · cases e
theorem fts_nil : PTs X [] (tT X.K cYes) := ⟨fun pins s σ H Q I ⟨_, _, b, _, e, q⟩ => by
  cases e
  exact pts_nil.run pins s σ H Q I (q H (.refl H))⟩
theorem fts_one {t : Expr} (h : FT X t c) : PTs X [t] (tT X.K c) := pts_one h
theorem fe_comp {elt tgE iter : Expr} {ifs : List Expr} {scope : Scope} {own : List (Str × Nat)} {gi : Ev → Option (List D)} {tg : Tg} (hc : X.calm = true) (hN : X.N.Nodup) (hi : PI X tgE iter (tI X.K Same gi)) (ok : BlkOk X.N X.env.scope scope own)
    (hg : ∀ (s : Shared) (H : Hp) (C : Addr) (cl : List (Str × Addr)) (fp : List Addr), PG (X.blk s H scope (compEnvC scope cl C X.env) fp) tgE (tgR X.K tg)) (ht : ∀ (s : Shared) (H : Hp) (C : Addr) (cl : List (Str × Addr)) (fp : List Addr), PTs (X.blk s H scope (compEnvC scope cl C X.env) fp) ifs (tT X.K c))
    (he : ∀ (s : Shared) (H : Hp) (C : Addr) (cl : List (Str × Addr)) (fp : List Addr), FE (X.blk s H scope (compEnvC scope cl C X.env) fp) elt g) (hin : tgIn tg (own.map (·.2)) = true := by rfl) (hs : ∀ x, foldedSetIterable iter X.env x = pure x := by intro _; rfl) :
    FE X (.ListComp elt [⟨tgE, iter, ifs, 0⟩] scope pos) (gComp gi tg c g (own.map (·.2))) := pe_imp (pe_lc hc hN hi ok hg ht he hs) (comp_t hin)
theorem fs_setLc {i : Nat} {y : Str} {py : Pos} {elt tgE iter : Expr} {ifs : List Expr} {scope : Scope} {own : List (Str × Nat)} {spos : Pos} {gi : Ev → Option (List D)} {tg : Tg} (hc : X.calm = true) (hN : X.N.Nodup) (hy : X.N[i]? = some y) (hyl : X.env.scope.names.lookup y = some .local)
    (hsw : swapsWith (.ListComp elt [⟨tgE, iter, ifs, 0⟩] scope pos) (some (.Name y py)) spos.line X.env = pure true) (hi : PI X tgE iter (tI X.K Same gi)) (ok : BlkOk X.N X.env.scope scope own)
    (hg : ∀ (s : Shared) (H : Hp) (C : Addr) (cl : List (Str × Addr)) (fp : List Addr), PG (X.blk s H scope (compEnvC scope cl C X.env) fp) tgE (tgR X.K tg)) (ht : ∀ (s : Shared) (H : Hp) (C : Addr) (cl : List (Str × Addr)) (fp : List Addr), PTs (X.blk s H scope (compEnvC scope cl C X.env) fp) ifs (tT X.K c))
    (he : ∀ (s : Shared) (H : Hp) (C : Addr) (cl : List (Str × Addr)) (fp : List Addr), FE (X.blk s H scope (compEnvC scope cl C X.env) fp) elt g) (hin : tgIn tg (own.map (·.2)) = true := by rfl) (hs : ∀ x, foldedSetIterable iter X.env x = pure x := by intro _; rfl) :
    FS X (.Assign [.Name y py] (.ListComp elt [⟨tgE, iter, ifs, 0⟩] scope pos) spos) (hSet i (gComp gi tg c g (own.map (·.2)))) := ps_imp (ps_setLc hc hN hy hyl hsw hi ok hg ht he hs) fun D σ H h => by
  have h2 := set_t h
  exact comp_t hin σ H _ h2
end
end FL
end
end -- FLC
section -- FLD
set_option Elab.async false
set_option linter.all false
set_option maxRecDepth 100000
/-! enumerate over a tuple -/
noncomputable section
namespace FL
open PySem PySem.Spec PyProof.Rows L2

set_option maxHeartbeats 1000000 in
theorem enum_made {v : Value} {o : Obj} {G : Heap → Prop} (B : Begins v o G) :
    Meets (Builtin.«enumerate.__new__» ⟨[.type "enumerate", v], []⟩) (fun _ R s => G s.heap ∧
      R (.ok (.ret (.ref (s.heap.push o).objs.size))) { s with heap := (s.heap.push o).push { cls := .type "enumerate", data := .fields #[.none, .bool false, .ref s.heap.objs.size, rawInt 0, .none, .none] } }) :=
  .of_wp fun prog w A R s h => by
    obtain ⟨hp, g, d, tk, os⟩ := s
    obtain ⟨hG, hR⟩ := h
    have hsub := sub_enumerate
    have step : ∀ {A' : Around} {E : Value → Shared → Prop} {Q : Value → Shared → Prop}, Q (.ref hp.objs.size) ⟨hp.push o, g, d, tk, os⟩ → wpAny (model prog w) A' (pyIter v) Q E ⟨hp, g, d, tk, os⟩ :=
      fun q => B.iter prog w _ _ ⟨hp, g, d, tk, os⟩ _ hG q
    wp_walk using step
    refine wpAny_stack_any fun st => wpAny_pure ?_
    split
    · rename_i c _ _ _ _ _
      cases (c == Value.type "enumerate")
      · wp_walk using step
        exact ⟨_, rfl, hR⟩
      · wp_walk using step
        exact ⟨_, rfl, hR⟩
    · wp_walk using step
      exact ⟨_, rfl, hR⟩
section
variable {prog : Program} {w : World} {A : Around} {E : Value → Shared → Prop} {s : Shared}
theorem enum_call {v : Value} {o : Obj} {G : Heap → Prop} {Q : Value → Shared → Prop} (B : Begins v o G) (hG : G s.heap)
    (h : ∀ h', IsEnum h' (s.heap.objs.size + 1) s.heap.objs.size 0 .none → h'.get? s.heap.objs.size = some o → h'.objs.size = s.heap.objs.size + 2 →
      (∀ b u, s.heap.get? b = some u → h'.get? b = some u) → Q (.ref (s.heap.objs.size + 1)) { s with heap := h' }) :
    wpAny (model prog w) A (call (.type "enumerate") [v]) Q E s := by
  refine callType_new F.called_enumerate (by decide) (F.typeCall_enumerate_1 _) (F.newCall_enumerate_1 _) (fun obj => F.args_object_init_2 obj _) F.entry_enumerate_new (enum_made B) ⟨hG, ?_⟩
  have n1 : (s.heap.push o).objs.size = s.heap.objs.size + 1 := Heap.size_push ..
  show _ ∧ _
  rw [n1]
  have it : IsEnum ((s.heap.push o).push { cls := .type "enumerate", data := .fields #[.none, .bool false, .ref s.heap.objs.size, rawInt 0, .none, .none] }) (s.heap.objs.size + 1) s.heap.objs.size 0 .none := by
    have z := Heap.get?_push_size (s.heap.push o) (o := { cls := .type "enumerate", data := .fields #[.none, .bool false, .ref s.heap.objs.size, rawInt 0, .none, .none] }) rfl
    rw [n1] at z
    exact z
  refine ⟨⟨_, it, rfl⟩, h _ it (Heap.get?_push_of_some _ (Heap.get?_push_size _ B.free)) (by rw [Heap.size_push, n1]) fun b u z => Heap.get?_push_of_some _ (Heap.get?_push_of_some _ z)⟩
end

/-- the tuple at a, each item in a new pair with its place -/
def ItEt (K : PySem.W.Frag) (a : Addr) : It where
  go i H := ∃ (xs : List V) (x : V), SqT K H a xs ∧ xs[i]? = some x
  yld i H v H' := ∃ T x, v = .ref T ∧ H T = none ∧ H' = upd H T (.tup [.int (i : Nat), x]) ∧ ∀ xs, SqT K H a xs → xs[i]? = some x
  stop i H := ∃ xs : List V, SqT K H a xs ∧ xs.length ≤ i
def EtSt (a e it : Addr) (i : Nat) (h : Heap) : Prop := (∃ old, IsEnum h e it ((i : Nat) : Int) old) ∧ h.IsTupleIter it a i ∧ e ≠ it
theorem tup_ne {h : Heap} {a b : Addr} {its : Array Value} {o : Obj} {n : String} (p : IsTup h a its) (e : h.get? b = some o) (c : o.cls = .type n) (hn : n ≠ "tuple") : a ≠ b := by
  intro z
  subst z
  obtain ⟨u, hu, hc, _⟩ := p
  rw [e] at hu
  cases hu
  rw [c] at hc
  exact hn (Value.type.inj hc)
theorem turn_et {P : Program} {w : World} {K : PySem.W.Frag} {elts : List Expr} {kk : Nat} {tpos : Pos} (a e it : Addr) : Turn P w K (.Tuple elts kk tpos) (ItEt K a) [e, it] e (EtSt a e it) where
  mem := List.mem_cons_self
  obj := fun i h st b hb => by
    obtain ⟨⟨old, he⟩, ⟨o, ho, hc, hd⟩, _⟩ := st
    rcases List.mem_cons.mp hb with z | hb
    · subst z
      exact ⟨_, he, fun v q => nomatch q⟩
    · cases List.mem_singleton.mp hb
      exact ⟨o, ho, fun v q => by
        rw [hd] at q
        cases q⟩
  keep := fun i h h' st k => by
    obtain ⟨⟨old, he⟩, hi, hne⟩ := st
    exact ⟨⟨old, k e (by simp) _ he⟩, hi.at fun o q => k it (by simp) o q, hne⟩
  item := by
    intro X hP hw hK hc i pins s σ H E I hf st hg
    subst hP hw hK
    obtain ⟨⟨old, he⟩, hit, hne⟩ := st
    obtain ⟨xs, x, hq, hx⟩ := hg
    obtain ⟨its, rv, p, hz⟩ := I.tuple hq
    obtain ⟨u, hu, ru⟩ := rv.get hx
    obtain ⟨oi, hoi, hci, _⟩ := id hit
    have ne1 : a ≠ e := tup_ne p he rfl (by decide)
    have ne2 : a ≠ it := tup_ne p hoi hci (by decide)
    have hel : e < s.heap.objs.size := Heap.lt_size he
    have hil : it < s.heap.objs.size := Heap.lt_size hoi
    have hlt : i < its.toArray.size := by
      have hl := (List.getElem?_eq_some_iff.mp hu).1
      rw [List.size_toArray]
      exact hl
    have Dr := Draws.tuple (prog := X.prog) (w := X.w) (A := X.A.in1) (show X.A.in1.handled = none from I.ok.hd hc) it a ne2 its.toArray
    refine wpAny_pyNext_enum_itemD Dr he ⟨hit, p⟩ hlt hne (by simp [hne, Ne.symm ne1]) fun u2 h' tk hu2 ho hst hT hsz hk => ?_
    have eu : u2 = u := by
      have z : its.toArray[i]? = some u := by simpa using hu
      exact Option.some.inj (hu2.symm.trans z)
    subst eu
    refine ⟨_, rfl, wpAny_letOwnedTupleGo_enum (s := { s with heap := h', toks := tk + 1 }) ho fun h2 he2 sb => ?_⟩
    have hT2 := (sb.2 _ (Nat.ne_of_gt hel)).trans hT
    have new : ObjOk X.prog X.w (upd H s.heap.objs.size (.tup [.int (i : Nat), x])) h2 s.heap.objs.size (.tup [.int (i : Nat), x]) :=
      ⟨by show 2 ≤ sizeLine; decide, [.int i tk, u2], .cons ⟨_, rfl⟩ (.cons ru .nil), ⟨_, hT2, rfl, _, rfl⟩⟩
    have hold : ∀ b ob, b ∉ [e, it] → s.heap.get? b = some ob → h2.get? b = some ob := fun b ob hb q => by
      have b1 : b ≠ e := fun z => hb (by simp [z])
      have b2 : b ≠ it := fun z => hb (by simp [z])
      exact (sb.2 b b1).trans (hk b ob b1 b2 q)
    have I1 := I.turnedNew (ch := [e, it]) (t' := tk + 1) hold hf (Nat.le_refl _) new
    refine ⟨.ref s.heap.objs.size, _, I1, rfl, ⟨_, x, rfl, I.hok.fresh (Nat.le_refl _), rfl, fun ys hy => by
      rw [I.tuple_inj hy hq]
      exact hx⟩, ⟨⟨u2, ?_⟩, hst.1.at fun o q => (sb.2 it (Ne.symm hne)).trans q, hne⟩, fun b hb => ?_⟩
    · rw [show ((i + 1 : Nat) : Int) = (i : Int) + 1 by omega]
      exact he2
    · have hb' : b < s.heap.objs.size := by
        rcases List.mem_cons.mp hb with z | hb
        · rw [z]
          exact hel
        · rw [List.mem_singleton.mp hb]
          exact hil
      rw [upd_ne (Nat.ne_of_lt hb')]
      exact (hf b hb).1
  done := by
    intro X hP hw hK hc i pins s σ H E I hf st hg
    subst hP hw hK
    obtain ⟨⟨old, he⟩, hit, hne⟩ := st
    obtain ⟨xs, hq, hx⟩ := hg
    obtain ⟨its, rv, p, hz⟩ := I.tuple hq
    obtain ⟨oi, hoi, hci, _⟩ := id hit
    have ne2 : a ≠ it := tup_ne p hoi hci (by decide)
    obtain ⟨f0, f1, f2, f3, f4, f5⟩ := hf it (by simp)
    have hl := rv.length
    -- beyond its end the iterator stops
    unfold pyNext
    have hT : s.TypeIs (.ref e) "enumerate" := ⟨_, he, rfl⟩
    refine wpAny_bind (wpAny_attempt (wpAny_callSpecial?_slot (name := Str.ofString "__next__") hT F.slot_enumerate_next (wpAny_call_entry F.slot_enumerate_next hT F.entry_enumerate_next ?_ (F.args_enumerate_next_1 _))))
    show wpAny _ _ (field (.ref e) 2 >>= _) _ _ _
    refine wpAny_bind (wpAny_field he rfl (x := .ref it) rfl ?_)
    refine wpAny_bind (PySem.wpAny_nextOf_tuple_end (show X.A.in1.handled = none from I.ok.hd hc) hit p (by simp; omega) fun h' z he' hz' => ?_)
    obtain ⟨o, ho, hco⟩ := hz'
    refine wpAny_bind (wpAny_isInstance (T := "StopIteration") (b := true) ⟨o, ho, hco⟩ isSubtype_stop ?_)
    exact wpAny_pure ⟨rfl, I.turned (t' := s.toks) (fun b o hb q => he' b o hb q) f0 f1 f3 f4 f5⟩
  self := fun A i s Q E st h => let ⟨⟨_, he⟩, _⟩ := st; wpAny_pyIter_enum he h
def iEt (K : PySem.W.Frag) (ta : TA) : TI := fun σ H R => ta σ H fun vs H1 => ∃ a xs, vs = [.ref a] ∧ SqT K H1 a xs ∧ R (ItEt K a) H1
theorem pi_et {X : Cx} {e : Expr} {ta : TA} {p pos tpos : Pos} {elts : List Expr} {kk : Nat} (hg : Gl X "enumerate") (hm : X.mg "enumerate" = none) (ha : PA X [e] ta) (hs : starEach [e] X.env = [(false, eval e X.env)] := by rfl) :
    PI X (.Tuple elts kk tpos) (.Call (.Name "enumerate" p) [e] [] pos) (iEt X.K ta) := by
  refine ⟨fun pins s σ H R I h => ?_⟩
  refine Call_ (ld_blt I hg hm boot_enumerate (PyProof.Rows.callWith_type1 (thn (ha.run pos pins s σ H _ I h) fun us s1 ⟨vs, H1, I1, r1, q1⟩ => ?_) hs rfl))
  obtain ⟨a, xs, ex, hq, q⟩ := q1
  subst ex
  obtain rfl := r1.ref1
  obtain ⟨its, rv, p', hz⟩ := I1.tuple hq
  refine enum_call (begins_tuple a its.toArray) p' fun h' he hit hsz hk => wpAny_pyIter_enum he ?_
  have I2 : Inv X pins σ H1 { s1 with heap := h' } := I1.kept (t' := s1.toks) hk
  refine ⟨s1.heap.objs.size + 1, [s1.heap.objs.size + 1, s1.heap.objs.size], _, _, H1, rfl, I2, turn_et a (s1.heap.objs.size + 1) s1.heap.objs.size, ⟨⟨.none, he⟩, ⟨_, hit, rfl, rfl⟩, Nat.succ_ne_self _⟩, fun b hb => ?_, q⟩
  have hle : s1.heap.objs.size ≤ b := by
    rcases List.mem_cons.mp hb with z | hb
    · rw [z]
      exact Nat.le_add_right _ _
    · rw [List.mem_singleton.mp hb]
      exact Nat.le_refl _
  exact I1.fpOk hle (I1.hok.fresh hle)
theorem walk_et {K : PySem.W.Frag} {a : Addr} {xs : List V} : Walk (ItEt K a) xs.length (fun H => SqT K H a xs) (YPair (fun i => some (.int (i : Nat))) (fun i => xs[i]?)) := by
  refine ⟨fun i _ hi q => ⟨xs, xs[i], q, by simp [hi]⟩, fun _ q => ⟨xs, q, Nat.le_refl _⟩, fun i H v H' _ q y => ?_⟩
  obtain ⟨T, x, h1, h2, h3, h4⟩ := y
  exact ⟨T, .int (i : Nat), x, h1, h2, h3, rfl, h4 xs q⟩
theorem walk_zt {K : PySem.W.Frag} {a b : Addr} {xs ys : List V} {n : Nat} (hn : n = min xs.length ys.length) : Walk (RZ.ItzT K a b) n (fun H => SqT K H a xs ∧ SqT K H b ys) (YPair (fun i => xs[i]?) (fun i => ys[i]?)) := by
  subst hn
  refine ⟨fun i _ hi q => ?_, fun _ q => ⟨xs, ys, q.1, q.2, by omega⟩, fun i H v H' _ q y => ?_⟩
  · have h1 : i < xs.length := by omega
    have h2 : i < ys.length := by omega
    exact ⟨xs, ys, xs[i], ys[i], q.1, q.2, by simp [h1], by simp [h2]⟩
  · obtain ⟨T, x, z, h1, h2, h3, h4, h5⟩ := y
    exact ⟨T, x, z, h1, h2, h3, h4 xs q.1, h5 ys q.2⟩
end FL
end
end -- FLD
section -- FLS
set_option Elab.async false
set_option linter.all false
set_option maxRecDepth 100000
/-! slices of a tuple with a step -/
noncomputable section
namespace FL
open PySem PySem.Spec PyProof.Rows L2
/-- the items of xs[lo:hi:c] -/
def pickG {α : Type} (xs : List α) (lo hi : Option Int) (c : Int) : List α :=
  (List.range (Builtin.Slice.slicePlaces (Builtin.Slice.sliceAdjust lo hi c xs.length).1 (Builtin.Slice.sliceAdjust lo hi c xs.length).2 c)).filterMap fun (k : Nat) => xs[((Builtin.Slice.sliceAdjust lo hi c xs.length).1 + (k : Int) * c).toNat]?
section
variable {prog : Program} {w : World} {A : Around} {E : Value → Shared → Prop} {s : Shared}
theorem applied_step {sl : Addr} {vl vu : Value} {lo hi : Option Int} {c : Int} {tc : Tok} {n : Int} {Q : Int × Int × Nat → Shared → Prop} (hs : s.heap.IsSliceOf sl vl vu (.int c tc)) (pl : IsPart vl lo) (pu : IsPart vu hi) (hc : c ≠ 0)
    (h : Q ((Builtin.Slice.sliceAdjust lo hi c n).1, c, Builtin.Slice.slicePlaces (Builtin.Slice.sliceAdjust lo hi c n).1 (Builtin.Slice.sliceAdjust lo hi c n).2 c) s) : wpAny (model prog w) A (Builtin.Slice.sliceApplied (.ref sl) (pure n)) Q E s := by
  obtain ⟨os, hos, hcs, hds⟩ := id hs
  unfold Builtin.Slice.sliceApplied Builtin.Slice.sliceFields
  refine wpAny_bind (wpAny_bind (wpAny_field hos hds (x := vl) rfl (wpAny_bind (wpAny_field hos hds (x := vu) rfl (wpAny_bind (wpAny_field hos hds (x := .int c tc) rfl (wpAny_pure ?_)))))))
  refine wpAny_bind (slicePart_int ?_)
  show wpAny _ _ (if (c == 0) = true then _ else _) _ _ s
  rw [if_neg (by simpa using hc)]
  refine wpAny_bind (HT.slicePart_ pl (wpAny_bind (HT.slicePart_ pu (wpAny_bind (wpAny_pure ?_)))))
  exact wpAny_pure h
theorem item_step {t sl : Addr} {items : Array Value} {vl vu : Value} {lo hi : Option Int} {c : Int} {tc : Tok} {Q : Value → Shared → Prop} (ht : IsTup s.heap t items) (hs : s.heap.IsSliceOf sl vl vu (.int c tc)) (pl : IsPart vl lo) (pu : IsPart vu hi) (hc : c ≠ 0) (h1 : c ≠ 1)
    (h : Q (.ref s.heap.objs.size) { s with heap := s.heap.push { cls := .type "tuple", data := .seq (pickG items.toList lo hi c).toArray } }) (hsz : (pickG items.toList lo hi c).length ≤ sizeLine) : wpAny (model prog w) A (getItem (.ref t) (.ref sl)) Q E s := by
  have htake : sizeOk (.seq (pickG items.toList lo hi c).toArray) := by
    show (pickG items.toList lo hi c).toArray.size ≤ sizeLine
    rw [List.size_toArray]
    exact hsz
  obtain ⟨os, hos, hcs, hds⟩ := id hs
  have hTs : s.TypeIs (.ref sl) "slice" := ⟨os, hos, hcs⟩
  unfold getItem
  try with_reducible refine wpAny_holding ?_
  first | refine wpAny_bind (wpAny_pure ?_) | skip
  refine wpAny_bind (wpAny_sequenceKey ht.typeIs (by decide) ?_)
  refine wpAny_bind (wpAny_callSpecial?_slot (name := Str.ofString "__getitem__") ht.typeIs PyProof.Rows.slot_tuple_getitem (wpAny_call_entry PyProof.Rows.slot_tuple_getitem ht.typeIs entry_tuple_getitem ?_ (args_tuple_getitem _ _)))
  show wpAny _ _ (Builtin.Tuple.tupleItemsOf (.ref t) >>= _) _ _ s
  refine wpAny_bind (tupleItemsOf_ ht ?_)
  refine wpAny_bind (wpAny_typeOf hTs ?_)
  rw [if_pos (by decide)]
  refine wpAny_bind (applied_step hs pl pu hc ?_)
  have hno : ¬ (((Builtin.Slice.sliceAdjust lo hi c items.size).1 == 0 && c == 1 && (Builtin.Slice.slicePlaces (Builtin.Slice.sliceAdjust lo hi c items.size).1 (Builtin.Slice.sliceAdjust lo hi c items.size).2 c) == items.size) = true) := by
    intro q
    rw [Bool.and_eq_true, Bool.and_eq_true] at q
    exact h1 (eq_of_beq q.1.2)
  show wpAny _ _ (if ((Builtin.Slice.sliceAdjust lo hi c items.size).1 == 0 && c == 1 && (Builtin.Slice.slicePlaces (Builtin.Slice.sliceAdjust lo hi c items.size).1 (Builtin.Slice.sliceAdjust lo hi c items.size).2 c) == items.size) = true then _ else _) _ _ s
  rw [if_neg hno]
  have ep : ((List.range (Builtin.Slice.slicePlaces (Builtin.Slice.sliceAdjust lo hi c items.size).1 (Builtin.Slice.sliceAdjust lo hi c items.size).2 c)).filterMap fun (k : Nat) => items[((Builtin.Slice.sliceAdjust lo hi c items.size).1 + (k : Int) * c).toNat]?) = pickG items.toList lo hi c := by
    unfold pickG
    rw [Array.length_toList]
    simp
  rw [ep]
  first
    | exact wpAny_bind (m := Builtin.Tuple.tupleExact _) (wpAny_newObj_type (wpAny_pure ⟨_, rfl, wpAny_pure h⟩) htake)
    | exact wpAny_bind (m := Builtin.Tuple.tupleExact _) (wpAny_newObj_type (wpAny_bind (wpAny_pure (wpAny_pure ⟨_, rfl, wpAny_pure h⟩))) htake)
    | exact wpAny_bind (wpAny_bind (m := Builtin.Tuple.tupleExact _) (wpAny_newObj_type (wpAny_pure (wpAny_pure ⟨_, rfl, wpAny_pure h⟩)) htake))
    | exact wpAny_bind (wpAny_bind (m := Builtin.Tuple.tupleExact _) (wpAny_newObj_type (wpAny_pure ⟨_, rfl, wpAny_pure h⟩) htake))
end
theorem filterMap_rel {K : PySem.W.Frag} {H : Hp} {ds : List D} {vs : List V} (r : Rps K H ds vs) (ix : Nat → Nat) : ∀ l : List Nat, Rps K H (l.filterMap fun k => ds[ix k]?) (l.filterMap fun k => vs[ix k]?)
  | [] => rfl
  | k :: l => by
    have ih := filterMap_rel r ix l
    have hl := r.length
    by_cases hk : ix k < ds.length
    · have e1 : ds[ix k]? = some ds[ix k] := List.getElem?_eq_getElem hk
      obtain ⟨v, ev, rv⟩ := r.get e1
      simp only [List.filterMap_cons, e1, ev]
      exact ⟨v, _, rfl, rv, ih⟩
    · have e1 : ds[ix k]? = none := List.getElem?_eq_none (by omega)
      have e2 : vs[ix k]? = none := List.getElem?_eq_none (by omega)
      simp only [List.filterMap_cons, e1, e2]
      exact ih
theorem Rps.pick {K : PySem.W.Frag} {H : Hp} {ds : List D} {vs : List V} (r : Rps K H ds vs) (lo hi : Option Int) (c : Int) : Rps K H (pickG ds lo hi c) (pickG vs lo hi c) := by
  unfold pickG
  rw [r.length]
  exact filterMap_rel r (fun (k : Nat) => ((Builtin.Slice.sliceAdjust lo hi c ds.length).1 + (k : Int) * c).toNat) _
theorem filterMap_vals {vs : List V} {us : List Value} (r : Vals vs us) (ix : Nat → Nat) : ∀ l : List Nat, Vals (l.filterMap fun k => vs[ix k]?) (l.filterMap fun k => us[ix k]?)
  | [] => .nil
  | k :: l => by
    have ih := filterMap_vals r ix l
    have hl := r.length
    by_cases hk : ix k < vs.length
    · have e1 : vs[ix k]? = some vs[ix k] := List.getElem?_eq_getElem hk
      obtain ⟨v, ev, rv⟩ := r.get e1
      simp only [List.filterMap_cons, e1, ev]
      exact .cons rv ih
    · have e1 : vs[ix k]? = none := List.getElem?_eq_none (by omega)
      have e2 : us[ix k]? = none := List.getElem?_eq_none (by omega)
      simp only [List.filterMap_cons, e1, e2]
      exact ih
theorem vals_pick {vs : List V} {us : List Value} (r : Vals vs us) (lo hi : Option Int) (c : Int) : Vals (pickG vs lo hi c) (pickG us lo hi c) := by
  unfold pickG
  rw [← r.length]
  exact filterMap_vals r (fun (k : Nat) => ((Builtin.Slice.sliceAdjust lo hi c vs.length).1 + (k : Int) * c).toNat) _

/-- t[lo:hi:c], c neither 0 nor 1 -/
def tStep (K : PySem.W.Frag) (te : TE) (tl th ts : TO) : TE := fun σ H Q => te σ H fun x H1 => tl σ H1 fun l H2 => th σ H2 fun u H3 => ts σ H3 fun o H4 => ∃ a xs c, x = .ref a ∧ SqT K H4 a xs ∧ o = some c ∧ c ≠ 0 ∧ c ≠ 1 ∧ (pickG xs l u c).length ≤ sizeLine ∧ ∀ p, H4 p = none → Q (.ref p) (upd H4 p (.tup (pickG xs l u c)))
theorem part_int {v : Value} {c : Int} (p : IsPart v (some c)) : ∃ t, v = .int c t := by
  cases p with
  | int i t => exact ⟨t, rfl⟩
theorem pe_step {X : Cx} {e st : Expr} {te : TE} {lo hi : Option Expr} {tl th ts : TO} {p2 pos : Pos} (he : PE X e te) (hl : PO X lo tl) (hu : PO X hi th) (hst : PO X (some st) ts)
    (hsub : ∀ o i, subscripted (.Slice lo hi (some st) p2) false o i = operate [o, i] (getItem o i) := by intro _ _; with_unfolding_all rfl) : PE X (.Subscript e (.Slice lo hi (some st) p2) pos) (tStep X.K te tl th ts) := by
  refine ⟨fun pins s σ H Q I h => ?_⟩
  refine Subscript_ (thn (he.run pins s σ H _ I h) fun v s1 ⟨x, H1, I1, r1, q1⟩ => ?_)
  refine wpAny_Slice (thn (hl.run pins s1 σ H1 _ I1 q1) fun vl s2 ⟨l, H2, I2, pl, q2⟩ => thn (hu.run pins s2 σ H2 _ I2 q2) fun vu s3 ⟨u, H3, I3, pu, q3⟩ => thn (hst.run pins s3 σ H3 _ I3 q3) fun vs s4 ⟨o, H4, I4, ps, q4⟩ => ?_)
  obtain ⟨a, xs, c, ex, hx, eo, c0, c1, hsz, q⟩ := q4
  subst ex eo
  cases r1
  obtain ⟨tc, rfl⟩ := part_int ps
  have I5 : Inv X pins σ H4 { s4 with heap := s4.heap.push { cls := .type "slice", data := .fields #[vl, vu, .int c tc] } } := I4.kept (t' := s4.toks) fun b ob q => Heap.get?_push_of_some _ q
  obtain ⟨its, r, ht, hz⟩ := I5.tuple hx
  have rp := vals_pick r l u c
  show wpAny (model X.prog X.w) X.A (subscriptTail e (.Slice lo hi (some st) p2) (.ref a) (.ref s4.heap.objs.size)) (EP X pins σ Q) X.xe { s4 with heap := s4.heap.push { cls := .type "slice", data := .fields #[vl, vu, .int c tc] } }
  refine tail_any (ops := [.ref a, .ref s4.heap.objs.size]) ht.typeIs PyProof.Rows.slot_tuple_getitem.lookup ?_ (hsub _ _)
  refine item_step ht (Heap.IsSliceOf.new _ vl vu (.int c tc)) pl pu c0 c1 ?_ ?_
  · exact ⟨.ref _, _, I5.laid (t' := s4.toks) (o := .tup (pickG xs l u c)) (fun b ob q => Heap.get?_push_of_some _ q) (Nat.le_refl _) ⟨hsz, _, rp, IsTup.new _ _⟩, rfl, q _ (I5.hok.fresh (Nat.le_refl _))⟩
  · show (pickG its l u c).length ≤ sizeLine
    rw [← rp.length]
    exact hsz
def gStep (ge : Ev → Option R) (gl gh gs : Ev → Option (Option Int)) : Ev → Option R := fun ρ => match ge ρ with
  | some (.d (.tup ds)) => match gl ρ with
    | some l => match gh ρ with
      | some h => match gs ρ with
        | some (some c) => if c == 0 || c == 1 then none else (if small (pickG ds l h c) then some (.d (.tup (pickG ds l h c))) else none)
        | _ => none
      | none => none
    | none => none
  | _ => none
theorem fe_step {X : Cx} {e st : Expr} {lo hi : Option Expr} {g : Ev → Option R} {gl gh gs : Ev → Option (Option Int)} {p2 pos : Pos} (he : FE X e g) (hl : PO X lo (tO X.K gl)) (hu : PO X hi (tO X.K gh)) (hst : PO X (some st) (tO X.K gs))
    (hsub : ∀ o i, subscripted (.Slice lo hi (some st) p2) false o i = operate [o, i] (getItem o i) := by intro _ _; with_unfolding_all rfl) :
    FE X (.Subscript e (.Slice lo hi (some st) p2) pos) (gStep g gl gh gs) := pe_imp (pe_step he hl hu hst hsub) fun σ H Q ⟨H0, ρ, z, rs, e, q⟩ => by
  unfold gStep at e
  split at e
  · rename_i ds hds
    split at e
    · rename_i l hl
      split at e
      · rename_i h hh
        split at e
        · rename_i c hc
          split at e
          · cases e
          · rename_i hn
            split at e
            · rename_i hsm
              cases e
              have hn' : c ≠ 0 ∧ c ≠ 1 := by simpa using hn
              refine ⟨H0, ρ, _, rs, hds, fun v H1 s1 o1 => ⟨H0, ρ, l, rs.step s1, hl, fun H2 s2 => ⟨H0, ρ, h, rs.step (s1.trans s2), hh, fun H3 s3 => ⟨H0, ρ, some c, rs.step ((s1.trans s2).trans s3), hc, fun H4 s4 => ?_⟩⟩⟩⟩
              have o4 := o1.same ((s2.trans s3).trans s4)
              obtain ⟨a, vs, ev, hs, rv⟩ := o4
              have rp := rv.pick l h c
              exact ⟨a, vs, c, ev, hs, rfl, hn'.1, hn'.2, by rw [rp.length]; exact small_ok hsm, fun p np => q _ _ ((((s1.trans s2).trans s3).trans s4).trans (same_new np)) (okR_newT np rp)⟩
            · cases e
        · cases e
      · cases e
    · cases e
  · cases e
end FL
end
end -- FLS
section -- FLO
set_option Elab.async false
set_option linter.all false
set_option maxRecDepth 100000
/-! operators, built-in functions -/
noncomputable section
namespace FL
open PySem PySem.Spec PyProof.Rows L2

/-! ### ints -/
def fI (g : Int → Int → D) : R → R → Option R
  | .d (.int i), .d (.int j) => some (.d (g i j))
  | _, _ => none
theorem fI_inv {g : Int → Int → D} {x y z : R} (h : fI g x y = some z) : ∃ i j, x = .d (.int i) ∧ y = .d (.int j) ∧ z = .d (g i j) := by
  unfold fI at h
  split at h
  · cases h
    exact ⟨_, _, rfl, rfl, rfl⟩
  · cases h
theorem op2_int {K : PySem.W.Frag} {g : Int → Int → D} {gv : Int → Int → V} (hg : ∀ i j H, Rp K H (g i j) (gv i j)) : Op2 K (rI0 gv) (fI g) := fun x y z v u H Q ox oy e q => by
  obtain ⟨i, j, rfl, rfl, rfl⟩ := fI_inv e
  exact ⟨i, j, ox, oy, q _ H (.refl H) (hg i j H)⟩
abbrev fAdd : R → R → Option R := fI fun i j => .int (i + j)
abbrev fLt : R → R → Option R := fI fun i j => .bl (decide (i < j))
abbrev fLe : R → R → Option R := fI fun i j => .bl (decide (i ≤ j))
abbrev fGt : R → R → Option R := fI fun i j => .bl (decide (j < i))
abbrev fGe : R → R → Option R := fI fun i j => .bl (decide (j ≤ i))
section
variable {K : PySem.W.Frag}
theorem s_add : Op2 K (rI0 fun i j => .int (i + j)) fAdd := op2_int fun _ _ _ => rfl
theorem s_lt : Op2 K (rI0 fun i j => .bl (decide (i < j))) fLt := op2_int fun _ _ _ => rfl
theorem s_le : Op2 K (rI0 fun i j => .bl (decide (i ≤ j))) fLe := op2_int fun _ _ _ => rfl
theorem s_gt : Op2 K (rI0 fun i j => .bl (decide (j < i))) fGt := op2_int fun _ _ _ => rfl
theorem s_ge : Op2 K (rI0 fun i j => .bl (decide (j ≤ i))) fGe := op2_int fun _ _ _ => rfl
/-- - of ints and of bools -/
def rSubB : R2 := fun x y H Q => ∃ p q, x = .bl p ∧ y = .bl q ∧ Q (.int (PyProof.Rows.b2i p - PyProof.Rows.b2i q)) H
theorem op_subB {X : Cx} : OpR X (binaryOp .Sub) rSubB := by
  intro pins s σ H x y v u Q I rx ry h
  obtain ⟨p, q, rfl, rfl, h⟩ := h
  cases rx
  cases ry
  exact PyProof.Rows.sub_bool ⟨.int _, H, I.tok _, ⟨_, rfl⟩, h⟩
def fSub : R → R → Option R
  | .d (.int i), .d (.int j) => some (.d (.int (i - j)))
  | .d (.bl p), .d (.bl q) => some (.d (.int (PyProof.Rows.b2i p - PyProof.Rows.b2i q)))
  | _, _ => none
def rSub : R2 := fun x y H Q => rI0 (fun i j => .int (i - j)) x y H Q ∨ rSubB x y H Q
theorem op_subF {X : Cx} : OpR X (binaryOp .Sub) rSub := op_sub.or op_subB
theorem s_sub : Op2 K rSub fSub := fun x y z v u H Q ox oy e q => by
  unfold fSub at e
  split at e
  · cases e
    exact .inl ⟨_, _, ox, oy, q _ H (.refl H) rfl⟩
  · cases e
    exact .inr ⟨_, _, ox, oy, q _ H (.refl H) rfl⟩
  · cases e
def okMul (i j : Int) : Bool := Nat.ble i.natAbs 18446744073709551615 || Nat.ble j.natAbs 18446744073709551615
theorem okMul_ok {i j : Int} (h : okMul i j = true) : CMul i j := by
  unfold okMul at h
  rw [Bool.or_eq_true] at h
  rcases h with h | h
  · have := Nat.le_of_ble_eq_true h
    exact .inl (by omega)
  · have := Nat.le_of_ble_eq_true h
    exact .inr (by omega)
def catD (ds es : List D) : List D := List.rec (motive := fun _ => List D) es (fun d _ ih => d :: ih) ds
theorem catD_eq (es : List D) : ∀ ds : List D, catD ds es = ds ++ es
  | [] => rfl
  | d :: ds => by
    show d :: catD ds es = _
    rw [catD_eq es ds]
    rfl
def repD (ds : List D) (n : Nat) : List D := Nat.rec (motive := fun _ => List D) [] (fun _ ih => catD ds ih) n
theorem repD_succ (ds : List D) (n : Nat) : repD ds (n + 1) = ds ++ repD ds n := catD_eq _ _
def fMul : R → R → Option R
  | .d (.int i), .d (.int j) => if okMul i j then some (.d (.int (i * j))) else none
  | .l _ ds, .d (.int k) => match k with
    | .ofNat n => if Nat.ble n 1000 && Nat.ble (lenD ds) 1000 then some (.l true (repD ds n)) else none
    | .negSucc n => if Nat.ble n 1000 then some (.l true []) else none
  | _, _ => none
theorem Rps.rep {H : Hp} {ds : List D} {vs : List V} (r : Rps K H ds vs) : ∀ n : Nat, Rps K H (repD ds n) (List.replicate n vs).flatten
  | 0 => rfl
  | n + 1 => by
    rw [List.replicate_succ, List.flatten_cons, repD_succ]
    exact r.append (Rps.rep r n)
def rMulF : R2 := fun x y H Q => rI CMul (fun i j => .int (i * j)) x y H Q ∨ rRep x y H Q
theorem op_mulF {X : Cx} : OpR X (binaryOp .Mult) rMulF := op_mul.or op_rep
theorem s_mul : Op2 K rMulF fMul := fun x y z v u H Q ox oy e q => by
  unfold fMul at e
  split at e
  · split at e
    · rename_i h
      cases e
      exact .inl ⟨_, _, ox, oy, okMul_ok h, q _ H (.refl H) rfl⟩
    · cases e
  · rename_i o ds k
    obtain ⟨a, vs, ev, ha, rv⟩ := ox
    have ey : u = .int k := oy
    split at e
    · rename_i n
      split at e
      · rename_i h
        cases e
        rw [Bool.and_eq_true, lenD_eq] at h
        have h1 := Nat.le_of_ble_eq_true h.1
        have h2 := Nat.le_of_ble_eq_true h.2
        refine .inr ⟨a, _, vs, ev, ey, ha, ?_, ?_, ?_, fun p np => q _ _ (same_new np) ⟨p, _, rfl, upd_same, (rv.rep n).keep (.of (same_new np)), fun _ => np⟩⟩
        · exact Int.le_trans (by decide) (Int.natCast_nonneg n)
        · show ((n : Nat) : Int) < 2 ^ 63
          omega
        · rw [rv.length]
          show ds.length * n ≤ sizeLine
          rw [sizeLine_eq]
          exact Nat.le_trans (Nat.mul_le_mul h2 h1) (by decide)
      · cases e
    · rename_i n
      split at e
      · rename_i h
        cases e
        have h1 := Nat.le_of_ble_eq_true h
        refine .inr ⟨a, _, vs, ev, ey, ha, ?_, ?_, ?_, fun p np => q _ _ (same_new np) ⟨p, _, rfl, upd_same, rfl, fun _ => np⟩⟩
        · rw [Int.negSucc_eq]
          omega
        · rw [Int.negSucc_eq]
          omega
        · show vs.length * 0 ≤ sizeLine
          rw [Nat.mul_zero]
          exact Nat.zero_le _
      · cases e
  · cases e
def fDiv : R → R → Option R
  | .d (.int i), .d (.int j) => if !(j == 0) && Nat.ble j.natAbs 1073741823 then some (.d (.int (i.fdiv j))) else none
  | _, _ => none
theorem s_div : Op2 K (rI CDivN fun i j => .int (i.fdiv j)) fDiv := fun x y z v u H Q ox oy e q => by
  unfold fDiv at e
  split at e
  · split at e
    · rename_i h
      cases e
      rw [Bool.and_eq_true] at h
      have h1 := Nat.le_of_ble_eq_true h.2
      refine ⟨_, _, ox, oy, ⟨?_, by omega⟩, q _ H (.refl H) rfl⟩
      simpa using h.1
    · cases e
  · cases e
def fMod : R → R → Option R
  | .d (.int i), .d (.int j) => if !(j == 0) then some (.d (.int (i.fmod j))) else none
  | _, _ => none
theorem s_mod : Op2 K (rI (fun _ j => j ≠ 0) fun i j => .int (i.fmod j)) fMod := fun x y z v u H Q ox oy e q => by
  unfold fMod at e
  split at e
  · split at e
    · rename_i h
      cases e
      refine ⟨_, _, ox, oy, ?_, q _ H (.refl H) rfl⟩
      simpa using h
    · cases e
  · cases e
def fNeg : R → Option R
  | .d (.int i) => some (.d (.int (-i)))
  | _ => none
theorem s_neg : Op1 K (rU fun i => .int (-i)) fNeg := fun x z v H Q ox e q => by
  unfold fNeg at e
  split at e
  · cases e
    exact ⟨_, ox, q _ H (.refl H) rfl⟩
  · cases e

/-! ### == at any depth -/
mutual
def toPy : D → PyData
  | .non => .none
  | .bl b => .bool b
  | .int i => .int i
  | .tup ds => .tuple (toPys ds)
def toPys : List D → List PyData
  | [] => []
  | d :: ds => toPy d :: toPys ds
end
mutual
theorem Rp.dp {H : Hp} : ∀ {d : D} {v : V}, Rp K H d v → Dp K H v (toPy d)
  | .non, _, h => by
    cases h
    exact .non
  | .bl b, _, h => by
    cases h
    exact .bl b
  | .int i, _, h => by
    cases h
    exact .int i
  | .tup ds, _, ⟨a, vs, e, s, r⟩ => by
    cases e
    exact .tup s (Rps.dp r)
theorem Rps.dp {H : Hp} : ∀ {ds : List D} {vs : List V}, Rps K H ds vs → DpAll K H vs (toPys ds)
  | [], _, h => by
    cases h
    exact .nil
  | _ :: _, _, ⟨v, r, e, h1, h2⟩ => by
    cases e
    exact .cons (Rp.dp h1) (Rps.dp h2)
end
mutual
theorem can_toPy : ∀ d : D, (toPy d).canLay0 = true
  | .non => by simp [toPy, PyData.canLay0]
  | .bl _ => by simp [toPy, PyData.canLay0]
  | .int _ => by simp [toPy, PyData.canLay0]
  | .tup ds => by
    simp only [toPy, PyData.canLay0]
    exact can_toPys ds
theorem can_toPys : ∀ ds : List D, PyData.canLayAll0 (toPys ds) = true
  | [] => by simp [toPys, PyData.canLayAll0]
  | d :: ds => by
    simp only [toPys, PyData.canLayAll0]
    rw [can_toPy d, can_toPys ds]
    rfl
end
mutual
def flat : Nat → D → Bool
  | n + 1, .tup ds => flats n ds
  | 0, .tup _ => false
  | _, _ => true
def flats : Nat → List D → Bool
  | _, [] => true
  | n, d :: ds => flat n d && flats n ds
end
mutual
theorem flat_ok : ∀ (d : D) (n : Nat), flat n d = true → (toPy d).depth ≤ n
  | .non, n, h => by simp [toPy, PyData.depth]
  | .bl _, n, h => by simp [toPy, PyData.depth]
  | .int _, n, h => by simp [toPy, PyData.depth]
  | .tup ds, 0, h => by simp [flat] at h
  | .tup ds, n + 1, h => by
    simp only [flat] at h
    have := flats_ok ds n h
    simp only [toPy, PyData.depth]
    omega
theorem flats_ok : ∀ (ds : List D) (n : Nat), flats n ds = true → PyData.depthAll (toPys ds) ≤ n
  | [], n, h => by simp [toPys, PyData.depthAll]
  | d :: ds, n, h => by
    simp only [flats, Bool.and_eq_true] at h
    have h1 := flat_ok d n h.1
    have h2 := flats_ok ds n h.2
    simp only [toPys, PyData.depthAll]
    omega
end
mutual
def deq : D → D → Bool
  | .non, .non => true
  | .bl a, .bl b => a == b
  | .bl a, .int j => (if a then 1 else 0) == j
  | .int i, .bl b => i == (if b then 1 else 0)
  | .int i, .int j => i == j
  | .tup xs, .tup ys => deqs xs ys
  | _, _ => false
def deqs : List D → List D → Bool
  | [], [] => true
  | x :: xs, y :: ys => deq x y && deqs xs ys
  | _, _ => false
end
mutual
theorem deq_ok : ∀ a b : D, PyData.eqv (toPy a) (toPy b) = deq a b
  | .non, .non => by simp [toPy, PyData.eqv, deq]
  | .non, .bl _ => by simp [toPy, PyData.eqv, deq]
  | .non, .int _ => by simp [toPy, PyData.eqv, deq]
  | .non, .tup _ => by simp [toPy, PyData.eqv, deq]
  | .bl _, .non => by simp [toPy, PyData.eqv, deq]
  | .bl _, .bl _ => by simp [toPy, PyData.eqv, deq]
  | .bl _, .int _ => by simp [toPy, PyData.eqv, deq]
  | .bl _, .tup _ => by simp [toPy, PyData.eqv, deq]
  | .int _, .non => by simp [toPy, PyData.eqv, deq]
  | .int _, .bl _ => by simp [toPy, PyData.eqv, deq]
  | .int _, .int _ => by simp [toPy, PyData.eqv, deq]
  | .int _, .tup _ => by simp [toPy, PyData.eqv, deq]
  | .tup _, .non => by simp [toPy, PyData.eqv, deq]
  | .tup _, .bl _ => by simp [toPy, PyData.eqv, deq]
  | .tup _, .int _ => by simp [toPy, PyData.eqv, deq]
  | .tup xs, .tup ys => by
    simp only [toPy, PyData.eqv, deq]
    exact deqs_ok xs ys
theorem deqs_ok : ∀ a b : List D, PyData.eqvAll (toPys a) (toPys b) = deqs a b
  | [], [] => by simp [toPys, PyData.eqvAll, deqs]
  | [], _ :: _ => by simp [toPys, PyData.eqvAll, deqs]
  | _ :: _, [] => by simp [toPys, PyData.eqvAll, deqs]
  | x :: xs, y :: ys => by
    simp only [toPys, PyData.eqvAll, deqs]
    rw [deq_ok x y, deqs_ok xs ys]
end
theorem shaped_D {d : D} (h : flat 8 d = true) : SeqAt.shaped (toPy d) = true := by
  have h1 := flat_ok d 8 h
  unfold SeqAt.shaped
  rw [can_toPy d, decide_eq_true (show (toPy d).depth ≤ 64 by omega)]
  rfl
theorem shaped_L {ds : List D} (h : flats 8 ds = true) : SeqAt.shaped (.list (toPys ds)) = true := by
  have h1 := flats_ok ds 8 h
  unfold SeqAt.shaped
  have e1 : PyData.canLay0 (.list (toPys ds)) = true := by
    simp only [PyData.canLay0]
    exact can_toPys ds
  have e2 : PyData.depth (.list (toPys ds)) ≤ 64 := by
    simp only [PyData.depth]
    omega
  rw [e1, decide_eq_true e2]
  rfl
def eqR : R → R → Option Bool
  | .d x, .d y => if flat 8 x && flat 8 y then some (deq x y) else none
  | .l _ xs, .l _ ys => if flats 8 xs && flats 8 ys then some (deqs xs ys) else none
  | _, _ => none
theorem eqR_ok {x y : R} {b : Bool} {v u : V} {H : Hp} (e : eqR x y = some b) (ox : okA K H x v) (oy : okA K H y u) : ∃ d d', Dp K H v d ∧ Dp K H u d' ∧ SeqAt.shaped d = true ∧ SeqAt.shaped d' = true ∧ PyData.eqv d d' = b := by
  unfold eqR at e
  split at e
  · split at e
    · rename_i h
      cases e
      rw [Bool.and_eq_true] at h
      exact ⟨_, _, Rp.dp ox, Rp.dp oy, shaped_D h.1, shaped_D h.2, deq_ok _ _⟩
    · cases e
  · split at e
    · rename_i h
      cases e
      rw [Bool.and_eq_true] at h
      obtain ⟨a, vs, ev, ha, rv⟩ := ox
      obtain ⟨a', vs', ev', ha', rv'⟩ := oy
      subst ev ev'
      refine ⟨_, _, .lst (.of ha) rv.dp, .lst (.of ha') rv'.dp, shaped_L h.1, shaped_L h.2, ?_⟩
      simp only [PyData.eqv]
      exact deqs_ok _ _
    · cases e
  · cases e
/-- the same for tuples of ints, faster -/
def eqZ (i j : Int) : Bool := match i with
  | .ofNat m => match j with
    | .ofNat n => Nat.beq m n
    | .negSucc _ => false
  | .negSucc m => match j with
    | .ofNat _ => false
    | .negSucc n => Nat.beq m n
theorem eqZ_eq (i j : Int) : eqZ i j = (i == j) := by
  cases i with
  | ofNat m =>
    cases j with
    | ofNat n =>
      show Nat.beq m n = _
      by_cases h : m = n
      · subst h
        simp
      · have e1 : Nat.beq m n = false := by
          cases hb : Nat.beq m n with
          | false => rfl
          | true => exact absurd (Nat.eq_of_beq_eq_true hb) h
        rw [e1]
        symm
        rw [beq_eq_false_iff_ne]
        intro z
        exact h (Int.ofNat.inj z)
    | negSucc n =>
      show false = _
      symm
      rw [beq_eq_false_iff_ne]
      intro z
      cases z
  | negSucc m =>
    cases j with
    | ofNat n =>
      show false = _
      symm
      rw [beq_eq_false_iff_ne]
      intro z
      cases z
    | negSucc n =>
      show Nat.beq m n = _
      by_cases h : m = n
      · subst h
        simp
      · have e1 : Nat.beq m n = false := by
          cases hb : Nat.beq m n with
          | false => rfl
          | true => exact absurd (Nat.eq_of_beq_eq_true hb) h
        rw [e1]
        symm
        rw [beq_eq_false_iff_ne]
        intro z
        exact h (Int.negSucc.inj z)
/-- some b: both are lists of ints, b whether they are equal -/
def eqIs (xs : List D) : List D → Option Bool := List.rec (motive := fun _ => List D → Option Bool) (fun ys => match ys with
  | [] => some true
  | _ :: _ => none) (fun x _ ih ys => match x with
  | .int i => match ys with
    | .int j :: ys' => match ih ys' with
      | some b => some (eqZ i j && b)
      | none => none
    | _ => none
  | _ => none) xs
/-- all are ints -/
def onlyI (xs : List D) : Bool := List.rec (motive := fun _ => Bool) true (fun x _ ih => match x with
  | .int _ => ih
  | _ => false) xs
theorem onlyI_flats (n : Nat) : ∀ {xs : List D}, onlyI xs = true → flats n xs = true
  | [], _ => by simp [flats]
  | .int i :: xs, h => by
    simp only [flats, onlyI_flats n (xs := xs) h, Bool.and_true]
    cases n <;> simp [flat]
  | .non :: _, h => by cases h
  | .bl _ :: _, h => by cases h
  | .tup _ :: _, h => by cases h
theorem eqIs_ok (n : Nat) : ∀ {xs ys : List D} {b : Bool}, eqIs xs ys = some b → flats n xs = true ∧ flats n ys = true ∧ deqs xs ys = b
  | [], [], b, h => by
    cases h
    exact ⟨by simp [flats], by simp [flats], by simp [deqs]⟩
  | [], _ :: _, b, h => by cases h
  | .int i :: xs, .int j :: ys, b, h => by
    have h' : (match eqIs xs ys with
      | some b => some (eqZ i j && b)
      | none => none) = some b := h
    split at h'
    · rename_i c hc
      cases h'
      obtain ⟨h1, h2, h3⟩ := eqIs_ok n hc
      refine ⟨?_, ?_, ?_⟩
      · simp only [flats, h1, Bool.and_true]
        cases n <;> simp [flat]
      · simp only [flats, h2, Bool.and_true]
        cases n <;> simp [flat]
      · simp only [deqs, deq, h3, eqZ_eq]
    · cases h'
  | .int _ :: _, [], b, h => by cases h
  | .int _ :: _, .non :: _, b, h => by cases h
  | .int _ :: _, .bl _ :: _, b, h => by cases h
  | .int _ :: _, .tup _ :: _, b, h => by cases h
  | .non :: _, _, b, h => by cases h
  | .bl _ :: _, _, b, h => by cases h
  | .tup _ :: _, _, b, h => by cases h
def eqFast : R → R → Option Bool
  | .d (.int i), .d (.int j) => some (eqZ i j)
  | .d (.tup xs), .d (.tup ys) => match ys with
    | [] => if onlyI xs then some (match xs with
      | [] => true
      | _ :: _ => false) else none
    | _ :: _ => eqIs xs ys
  | _, _ => none
theorem eqFast_ok {x y : R} {b : Bool} (h : eqFast x y = some b) : eqR x y = some b := by
  unfold eqFast at h
  split at h
  · rename_i i j
    cases h
    rw [eqZ_eq]
    rfl
  · rename_i xs ys
    split at h
    · split at h
      · rename_i ho
        cases h
        have h1 : flat 8 (.tup xs) = true := by
          simp only [flat]
          exact onlyI_flats 7 ho
        have h2 : flat 8 (.tup []) = true := by simp [flat, flats]
        simp only [eqR, h1, h2]
        cases xs with
        | nil => simp [deq, deqs]
        | cons x xs => simp [deq, deqs]
      · cases h
    · rename_i z zs
      obtain ⟨h1, h2, h3⟩ := eqIs_ok 7 h
      have h1' : flat 8 (.tup xs) = true := by
        simp only [flat]
        exact h1
      have h2' : flat 8 (.tup (z :: zs)) = true := by
        simp only [flat]
        exact h2
      simp only [eqR, h1', h2', deq, h3]
      rfl
  · cases h
def eqA (x y : R) : Option Bool := match eqFast x y with
  | some b => some b
  | none => eqR x y
theorem eqA_ok {x y : R} {b : Bool} (h : eqA x y = some b) : eqR x y = some b := by
  unfold eqA at h
  split at h
  · rename_i c hc
    cases h
    exact eqFast_ok hc
  · exact h
def fEq (x y : R) : Option R := match eqA x y with
  | some b => some (.d (.bl b))
  | none => none
def fNe (x y : R) : Option R := match eqA x y with
  | some b => some (.d (.bl (!b)))
  | none => none
theorem s_eq : Op2 K (rEqD K) fEq := fun x y z v u H Q ox oy e q => by
  unfold fEq at e
  split at e
  · rename_i b hb
    cases e
    obtain ⟨d, d', h1, h2, h3, h4, h5⟩ := eqR_ok (eqA_ok hb) ox oy
    refine ⟨d, d', h1, h2, h3, h4, ?_⟩
    rw [h5]
    exact q _ H (.refl H) rfl
  · cases e
theorem s_ne : Op2 K (rNeD K) fNe := fun x y z v u H Q ox oy e q => by
  unfold fNe at e
  split at e
  · rename_i b hb
    cases e
    obtain ⟨d, d', h1, h2, h3, h4, h5⟩ := eqR_ok (eqA_ok hb) ox oy
    refine ⟨d, d', h1, h2, h3, h4, ?_⟩
    rw [h5]
    exact q _ H (.refl H) rfl
  · cases e
/-- x in a list -/
def anyEq (x : D) : List D → Bool
  | [] => false
  | y :: ys => deq y x || anyEq x ys
theorem anyEq_ok {x : D} : ∀ ds : List D, (toPys ds).any (fun z => PyData.eqv z (toPy x)) = anyEq x ds
  | [] => by
    simp only [toPys]
    rfl
  | d :: ds => by
    simp only [toPys, List.any_cons]
    rw [deq_ok, anyEq_ok ds]
    rfl
def fIn : R → R → Option R
  | .d x, .l _ ys => if flat 8 x && flats 8 ys then some (.d (.bl (anyEq x ys))) else none
  | _, _ => none
theorem s_in : Op2 K (rInD K) fIn := fun x y z v u H Q ox oy e q => by
  unfold fIn at e
  split at e
  · split at e
    · rename_i h
      cases e
      rw [Bool.and_eq_true] at h
      obtain ⟨a, vs, ev, ha, rv⟩ := oy
      subst ev
      refine ⟨_, _, Rp.dp ox, .lst (.of ha) rv.dp, shaped_D h.1, shaped_L h.2, ?_⟩
      rw [anyEq_ok]
      exact q _ H (.refl H) rfl
    · cases e
  · cases e
/-! ### is -/
def isN : R → Bool
  | .d .non => true
  | _ => false
theorem isN_ok {x : R} {v : V} {H : Hp} (ox : okA K H x v) : decide (v = .non) = isN x := by
  cases x with
  | l o xs =>
    obtain ⟨a, vs, ev, _⟩ := ox
    rw [ev]
    exact decide_eq_false (fun z => nomatch z)
  | d x =>
    cases x with
    | non => exact decide_eq_true ox
    | bl b =>
      rw [show v = .bl b from ox]
      exact decide_eq_false (fun z => nomatch z)
    | int b =>
      rw [show v = .int b from ox]
      exact decide_eq_false (fun z => nomatch z)
    | tup ds =>
      obtain ⟨a, vs, ev, _⟩ := ox
      rw [ev]
      exact decide_eq_false (fun z => nomatch z)
def fIsN : R → R → Option R
  | x, .d .non => some (.d (.bl (isN x)))
  | _, _ => none
def fNotN : R → R → Option R
  | x, .d .non => some (.d (.bl (!isN x)))
  | _, _ => none
theorem s_isN : Op2 K (fun x y H Q => y = .non ∧ Q (.bl (decide (x = .non))) H) fIsN := fun x y z v u H Q ox oy e q => by
  unfold fIsN at e
  split at e
  · cases e
    refine ⟨oy, ?_⟩
    rw [isN_ok ox]
    exact q _ H (.refl H) rfl
  · cases e
theorem s_notN : Op2 K (fun x y H Q => y = .non ∧ Q (.bl (!decide (x = .non))) H) fNotN := fun x y z v u H Q ox oy e q => by
  unfold fNotN at e
  split at e
  · cases e
    refine ⟨oy, ?_⟩
    rw [isN_ok ox]
    exact q _ H (.refl H) rfl
  · cases e
def fIsB : R → R → Option R
  | .d (.bl a), .d (.bl b) => some (.d (.bl (a == b)))
  | _, _ => none
def fNotB : R → R → Option R
  | .d (.bl a), .d (.bl b) => some (.d (.bl (!(a == b))))
  | _, _ => none
theorem beq_dec (a b : Bool) : decide (a = b) = (a == b) := by cases a <;> cases b <;> rfl
theorem s_isB : Op2 K rIsB fIsB := fun x y z v u H Q ox oy e q => by
  unfold fIsB at e
  split at e
  · cases e
    refine ⟨_, _, ox, oy, ?_⟩
    rw [beq_dec]
    exact q _ H (.refl H) rfl
  · cases e
theorem s_notB : Op2 K rNotB fNotB := fun x y z v u H Q ox oy e q => by
  unfold fNotB at e
  split at e
  · cases e
    refine ⟨_, _, ox, oy, ?_⟩
    rw [beq_dec]
    exact q _ H (.refl H) rfl
  · cases e

/-! ### places and slices -/
def nix (n : Nat) : Int → Option Nat
  | .ofNat k => if Nat.blt k n then some k else none
  | .negSucc k => if Nat.blt k n then some (n - 1 - k) else none
theorem nix_ok {n : Nat} {i : Int} {j : Nat} (h : nix n i = some j) : ixN n i = some j ∧ j < n := by
  cases i with
  | ofNat k =>
    have h' : (if Nat.blt k n then some k else none) = some j := h
    split at h'
    · rename_i hk
      have ejk := Option.some.inj h'
      subst ejk
      have hk' : k < n := by
        rw [Nat.blt_eq] at hk
        exact hk
      refine ⟨?_, hk'⟩
      show (if (0 : Int) ≤ (k : Int) then (if (k : Int) < n then some (k : Int).toNat else none) else _) = _
      rw [if_pos (by omega), if_pos (by omega), Int.toNat_natCast]
    · cases h'
  | negSucc k =>
    have h' : (if Nat.blt k n then some (n - 1 - k) else none) = some j := h
    split at h'
    · rename_i hk
      have ejk := Option.some.inj h'
      subst ejk
      have hk' : k < n := by
        rw [Nat.blt_eq] at hk
        exact hk
      refine ⟨?_, by omega⟩
      unfold ixN
      rw [Int.negSucc_eq, if_neg (by omega), if_pos (by omega)]
      congr 1
      omega
    · cases h'
def nth (ds : List D) : Nat → Option D := List.rec (motive := fun _ => Nat → Option D) (fun _ => none) (fun d _ ih i => Nat.rec (motive := fun _ => Option D) (some d) (fun n _ => ih n) i) ds
theorem nth_eq : ∀ (ds : List D) (i : Nat), nth ds i = ds[i]?
  | [], _ => rfl
  | _ :: _, 0 => rfl
  | _ :: ds, n + 1 => nth_eq ds n
def ixD (ds : List D) (i : Int) : Option D := match nix (lenD ds) i with
  | some j => nth ds j
  | none => none
theorem ixD_ok {H : Hp} {ds : List D} {vs : List V} {i : Int} {d : D} (r : Rps K H ds vs) (h : ixD ds i = some d) : ∃ v, atI vs i = some v ∧ Rp K H d v := by
  unfold ixD at h
  split at h
  · rename_i j hj
    rw [lenD_eq] at hj
    rw [nth_eq] at h
    obtain ⟨v, hv, rv⟩ := r.get h
    refine ⟨v, ?_, rv⟩
    unfold atI
    rw [r.length, (nix_ok hj).1]
    exact hv
  · cases h
def fIx (x y : R) : Option R := match items x with
  | some ds => match y with
    | .d (.int i) => match ixD ds i with
      | some d => some (.d d)
      | none => none
    | _ => none
  | none => none
def rIxF (K : PySem.W.Frag) : R2 := fun x y H Q => rIxL K x y H Q ∨ rIxT K x y H Q
theorem ixF {X : Cx} : IxR X (rIxF X.K) := ix_list.or ix_tup
theorem s_ix : Op2 K (rIxF K) fIx := fun x y z v u H Q ox oy e q => by
  unfold fIx at e
  split at e
  · rename_i ds hds
    split at e
    · split at e
      · rename_i d hd
        cases e
        obtain ⟨p, vs, ev, hs, rv⟩ := items_ok hds ox
        obtain ⟨w, hw, rw'⟩ := ixD_ok rv hd
        rcases hs with hs | hs
        · exact .inr ⟨p, vs, _, w, ev, oy, hs, hw, q _ H (.refl H) rw'⟩
        · exact .inl ⟨p, vs, _, w, ev, oy, hs, hw, q _ H (.refl H) rw'⟩
      · cases e
    · cases e
  · cases e
def cutG {α : Type} (xs : List α) (lo hi : Option Int) : List α := (xs.drop (HT.sIx xs.length 0 lo)).take (HT.sIx xs.length xs.length hi - HT.sIx xs.length 0 lo)
theorem Rps.cut {H : Hp} {ds : List D} {vs : List V} (r : Rps K H ds vs) (lo hi : Option Int) : Rps K H (cutG ds lo hi) (cutV vs lo hi) := by
  unfold cutG cutV
  rw [r.length]
  exact (r.drop _).take _
def fSl : R → Option Int → Option Int → Option R
  | .d (.tup ds), l, h => some (.d (.tup (cutG ds l h)))
  | .l _ ds, l, h => some (.l true (cutG ds l h))
  | _, _, _ => none
def rSlF (K : PySem.W.Frag) : V → Option Int → Option Int → Hp → VK → Prop := fun x lo hi H Q => rSlL K x lo hi H Q ∨ rSlA K x lo hi H Q
theorem slF {X : Cx} : SlR X (rSlF X.K) := sl_list.or sl_tupA
theorem s_sl : SlS K (rSlF K) fSl := fun x z l h v H Q ox e q => by
  unfold fSl at e
  split at e
  · rename_i ds
    cases e
    obtain ⟨a, vs, ev, hs, rv⟩ := ox
    refine .inr ⟨a, vs, ev, hs, fun ⟨h1, h2⟩ => q _ H (.refl H) ⟨a, vs, rfl, hs, ?_⟩, fun _ p np => q _ _ (same_new np) (okR_newT np (rv.cut l h))⟩
    have e1 : cutG ds l h = ds := by
      unfold cutG
      rw [← rv.length, h1, h2, List.drop_zero, Nat.sub_zero]
      exact List.take_of_length_le (by rw [rv.length]; exact Nat.le_refl _)
    rw [e1]
    exact rv
  · rename_i o ds
    cases e
    obtain ⟨a, vs, ev, hs, rv⟩ := ox
    exact .inl ⟨a, vs, ev, .of hs, fun p np => q _ _ (same_new np) (okR_newL (.refl _) np (rv.cut l h))⟩
  · cases e

/-! ### built-in functions -/
def mLen : List R → Option R
  | [x] => match items x with
    | some ds => some (.d (.int (lenD ds : Nat)))
    | none => none
  | _ => none
theorem Okas.one {H : Hp} {r : R} {vs : List V} (h : Okas K H [r] vs) : ∃ v, vs = [v] ∧ okA K H r v := by
  obtain ⟨v, w, e, h1, h2⟩ := h
  have e2 : w = [] := h2
  subst e2
  exact ⟨v, e, h1⟩
theorem Okas.two {H : Hp} {r r' : R} {vs : List V} (h : Okas K H [r, r'] vs) : ∃ v v', vs = [v, v'] ∧ okA K H r v ∧ okA K H r' v' := by
  obtain ⟨v, w, e, h1, h2⟩ := h
  obtain ⟨v', e2, h3⟩ := Okas.one h2
  subst e2
  exact ⟨v, v', e, h1, h3⟩
def rLenF (K : PySem.W.Frag) : List V → Hp → VK → Prop := fun xs H Q => ∃ p ys, xs = [.ref p] ∧ (SqL K H p ys ∨ SqT K H p ys) ∧ Q (.int ys.length) H
theorem s_len : CallS K (rLenF K) mLen := fun rs z vs H Q o e q => by
  unfold mLen at e
  split at e
  · split at e
    · rename_i ds hds
      cases e
      obtain ⟨v, ev, ox⟩ := o.one
      obtain ⟨p, ws, ew, hs, rv⟩ := items_ok hds ox
      subst ev ew
      refine ⟨p, ws, rfl, hs.symm, ?_⟩
      rw [rv.length]
      rw [lenD_eq] at q
      exact q _ H (.refl H) rfl
    · cases e
  · cases e
def mTuple : List R → Option R
  | [.l _ xs] => some (.d (.tup xs))
  | [.d (.tup xs)] => some (.d (.tup xs))
  | _ => none
def rTupleF (K : PySem.W.Frag) : List V → Hp → VK → Prop := fun xs H Q => ∃ p ys, xs = [.ref p] ∧ ((SqL K H p ys ∧ ∀ l, H l = none → Q (.ref l) (upd H l (.tup ys))) ∨ (SqT K H p ys ∧ Q (.ref p) H))
theorem s_tuple : CallS K (rTupleF K) mTuple := fun rs z vs H Q o e q => by
  unfold mTuple at e
  split at e
  · cases e
    obtain ⟨v, ev, a, ws, ew, hs, rv⟩ := o.one
    subst ev ew
    exact ⟨a, ws, rfl, .inl ⟨.of hs, fun l nl => q _ _ (same_new nl) (okR_newT nl rv)⟩⟩
  · cases e
    obtain ⟨v, ev, a, ws, ew, hs, rv⟩ := o.one
    subst ev ew
    exact ⟨a, ws, rfl, .inr ⟨hs, q _ H (.refl H) ⟨a, ws, rfl, hs, rv⟩⟩⟩
  · cases e
def mList : List R → Option R
  | [x] => match items x with
    | some ds => some (.l true ds)
    | none => none
  | _ => none
def rListF (K : PySem.W.Frag) : List V → Hp → VK → Prop := fun xs H Q => ∃ p ys, xs = [.ref p] ∧ (SqL K H p ys ∨ SqT K H p ys) ∧ ∀ l, H l = none → Q (.ref l) (upd H l (.lst ys))
theorem s_list : CallS K (rListF K) mList := fun rs z vs H Q o e q => by
  unfold mList at e
  split at e
  · split at e
    · rename_i ds hds
      cases e
      obtain ⟨v, ev, ox⟩ := o.one
      obtain ⟨p, ws, ew, hs, rv⟩ := items_ok hds ox
      subst ev ew
      exact ⟨p, ws, rfl, hs.symm, fun l nl => q _ _ (same_new nl) (okR_newL (.refl _) nl rv)⟩
    · cases e
  · cases e
def mAbs : List R → Option R
  | [.d (.int i)] => some (.d (.int (if i < 0 then -i else i)))
  | _ => none
theorem s_abs : CallS K (fun xs H Q => ∃ i, xs = [.int i] ∧ Q (.int (if i < 0 then -i else i)) H) mAbs := fun rs z vs H Q o e q => by
  unfold mAbs at e
  split at e
  · cases e
    obtain ⟨v, ev, ox⟩ := o.one
    subst ev
    exact ⟨_, by rw [show v = .int _ from ox], q _ H (.refl H) rfl⟩
  · cases e
def mMax : List R → Option R
  | [.d (.int i), .d (.int j)] => some (.d (.int (if j > i then j else i)))
  | _ => none
theorem s_max : CallS K (fun xs H Q => ∃ i j, xs = [.int i, .int j] ∧ Q (.int (if j > i then j else i)) H) mMax := fun rs z vs H Q o e q => by
  unfold mMax at e
  split at e
  · cases e
    obtain ⟨v, v', ev, ox, oy⟩ := o.two
    subst ev
    exact ⟨_, _, by rw [show v = .int _ from ox, show v' = .int _ from oy], q _ H (.refl H) rfl⟩
  · cases e
def mInt : List R → Option R
  | [.d (.int i)] => some (.d (.int i))
  | _ => none
theorem s_int : CallS K (fun xs H Q => (∃ i, xs = [.int i] ∧ Q (.int i) H) ∨ ∃ k, xs = [.bl k] ∧ Q (.int (if k then 1 else 0)) H) mInt := fun rs z vs H Q o e q => by
  unfold mInt at e
  split at e
  · cases e
    obtain ⟨v, ev, ox⟩ := o.one
    subst ev
    exact .inl ⟨_, by rw [show v = .int _ from ox], q _ H (.refl H) rfl⟩
  · cases e
def mGcd : List R → Option R
  | [.d (.int i), .d (.int j)] => some (.d (.int ((Nat.gcd i.natAbs j.natAbs : Nat) : Int)))
  | _ => none
theorem s_gcd : CallS K rGcd mGcd := fun rs z vs H Q o e q => by
  unfold mGcd at e
  split at e
  · cases e
    obtain ⟨v, v', ev, ox, oy⟩ := o.two
    subst ev
    exact ⟨_, _, by rw [show v = .int _ from ox, show v' = .int _ from oy], q _ H (.refl H) rfl⟩
  · cases e
def bools : List D → Option (List Bool)
  | [] => some []
  | .bl b :: ds => match bools ds with
    | some bs => some (b :: bs)
    | none => none
  | _ :: _ => none
theorem bools_ok {H : Hp} : ∀ {ds : List D} {bs : List Bool} {vs : List V}, bools ds = some bs → Rps K H ds vs → vs = bs.map V.bl
  | [], _, _, e, r => by
    cases e
    exact r
  | .bl b :: ds, _, _, e, ⟨v, w, ev, h1, h2⟩ => by
    unfold bools at e
    split at e
    · rename_i bs hbs
      cases e
      rw [ev, bools_ok hbs h2, show v = .bl b from h1]
      rfl
    · cases e
  | .non :: _, _, _, e, _ => by cases e
  | .int _ :: _, _, _, e, _ => by cases e
  | .tup _ :: _, _, _, e, _ => by cases e
def mAny : List R → Option R
  | [.l _ xs] => match bools xs with
    | some bs => some (.d (.bl (bs.any id)))
    | none => none
  | _ => none
def mAll : List R → Option R
  | [.l _ xs] => match bools xs with
    | some bs => some (.d (.bl (bs.all id)))
    | none => none
  | _ => none
theorem s_any : CallS K (rAny K) mAny := fun rs z vs H Q o e q => by
  unfold mAny at e
  split at e
  · split at e
    · rename_i bs hbs
      cases e
      obtain ⟨v, ev, a, ws, ew, hs, rv⟩ := o.one
      subst ev ew
      exact ⟨a, bs, rfl, by rw [← bools_ok hbs rv]; exact .of hs, q _ H (.refl H) rfl⟩
    · cases e
  · cases e
theorem s_all : CallS K (rAll K) mAll := fun rs z vs H Q o e q => by
  unfold mAll at e
  split at e
  · split at e
    · rename_i bs hbs
      cases e
      obtain ⟨v, ev, a, ws, ew, hs, rv⟩ := o.one
      subst ev ew
      exact ⟨a, bs, rfl, by rw [← bools_ok hbs rv]; exact .of hs, q _ H (.refl H) rfl⟩
    · cases e
  · cases e
end
end FL
end
end -- FLO
section -- FLP
set_option Elab.async false
set_option linter.all false
set_option maxRecDepth 100000
/-! iterators, list stores, methods of lists, isinstance, defs -/
noncomputable section
namespace FL
open PySem PySem.Spec PyProof.Rows L2

/-! ### enumerate, zip, range -/
def enumD (i : Int) (ds : List D) : List D := List.rec (motive := fun _ => Int → List D) (fun _ => []) (fun d _ ih i => .tup [.int i, d] :: ih (i + 1)) ds i
theorem enumD_len : ∀ (ds : List D) (i : Int), (enumD i ds).length = ds.length
  | [], _ => rfl
  | d :: ds, i => by
    show (enumD (i + 1) ds).length + 1 = ds.length + 1
    rw [enumD_len ds]
theorem enumD_get : ∀ (ds : List D) (i : Int) (k : Nat) (d : D), ds[k]? = some d → (enumD i ds)[k]? = some (.tup [.int (i + k), d])
  | [], _, _, _, h => by simp at h
  | d0 :: ds, i, 0, d, h => by
    have e : d0 = d := Option.some.inj h
    subst e
    show some (D.tup [.int i, d0]) = some (.tup [.int (i + (0 : Nat)), d0])
    rw [show i + ((0 : Nat) : Int) = i by omega]
  | d0 :: ds, i, k + 1, d, h => by
    have z := enumD_get ds (i + 1) k d h
    show (enumD (i + 1) ds)[k]? = _
    rw [z, show i + 1 + (k : Int) = i + ((k + 1 : Nat) : Int) by omega]
def zipD (xs ys : List D) : List D := List.rec (motive := fun _ => List D → List D) (fun _ => []) (fun x _ ih ys => match ys with
  | [] => []
  | y :: ys' => .tup [x, y] :: ih ys') xs ys
theorem zipD_len : ∀ xs ys : List D, (zipD xs ys).length = min xs.length ys.length
  | [], [] => rfl
  | [], y :: ys => by
    show 0 = min 0 (ys.length + 1)
    omega
  | x :: xs, [] => by
    show 0 = min (xs.length + 1) 0
    omega
  | x :: xs, y :: ys => by
    show (zipD xs ys).length + 1 = min (xs.length + 1) (ys.length + 1)
    rw [zipD_len xs ys]
    omega
theorem zipD_get : ∀ (xs ys : List D) (k : Nat) (x y : D), xs[k]? = some x → ys[k]? = some y → (zipD xs ys)[k]? = some (.tup [x, y])
  | [], _, _, _, _, h, _ => by simp at h
  | _ :: _, [], _, _, _, _, h => by simp at h
  | x0 :: xs, y0 :: ys, 0, x, y, h, h' => by
    have e : x0 = x := Option.some.inj h
    have e' : y0 = y := Option.some.inj h'
    subst e e'
    rfl
  | x0 :: xs, y0 :: ys, k + 1, x, y, h, h' => zipD_get xs ys k x y h h'
def upD (i : Int) (n : Nat) : List D := Nat.rec (motive := fun _ => Int → List D) (fun _ => []) (fun _ ih i => .int i :: ih (i + 1)) n i
theorem upD_len : ∀ (n : Nat) (i : Int), (upD i n).length = n
  | 0, _ => rfl
  | n + 1, i => by
    show (upD (i + 1) n).length + 1 = n + 1
    rw [upD_len n]
theorem upD_get : ∀ (n : Nat) (i : Int) (k : Nat), k < n → (upD i n)[k]? = some (.int (i + k))
  | 0, _, _, h => absurd h (Nat.not_lt_zero _)
  | n + 1, i, 0, h => by
    show some (D.int i) = some (.int (i + (0 : Nat)))
    rw [show i + ((0 : Nat) : Int) = i by omega]
  | n + 1, i, k + 1, h => by
    have z := upD_get n (i + 1) k (by omega)
    show (upD (i + 1) n)[k]? = _
    rw [z, show i + 1 + (k : Int) = i + ((k + 1 : Nat) : Int) by omega]
def dnD (i : Int) (n : Nat) : List D := Nat.rec (motive := fun _ => Int → List D) (fun _ => []) (fun _ ih i => .int i :: ih (i - 1)) n i
theorem dnD_len : ∀ (n : Nat) (i : Int), (dnD i n).length = n
  | 0, _ => rfl
  | n + 1, i => by
    show (dnD (i - 1) n).length + 1 = n + 1
    rw [dnD_len n]
theorem dnD_get : ∀ (n : Nat) (i : Int) (k : Nat), k < n → (dnD i n)[k]? = some (.int (i + (k : Nat) * (-1)))
  | 0, _, _, h => absurd h (Nat.not_lt_zero _)
  | n + 1, i, 0, h => by
    show some (D.int i) = some (.int (i + ((0 : Nat) : Int) * (-1)))
    rw [show i + ((0 : Nat) : Int) * (-1) = i by omega]
  | n + 1, i, k + 1, h => by
    have z := dnD_get n (i - 1) k (by omega)
    show (dnD (i - 1) n)[k]? = _
    rw [z, show i - 1 + (k : Int) * (-1) = i + ((k + 1 : Nat) : Int) * (-1) by omega]
/-- a new pair for each turn -/
theorem pair_ok {K : PySem.W.Frag} {S : Hp → Hp → Prop} {J : It} {H : Hp} {ds : List D} {n : Nat} {G : Hp → Prop} {fx fy : Nat → Option V} (hn : ds.length = n) (w : Walk J n G (YPair fx fy)) (hG : ∀ H', S H H' → G H')
    (hd : ∀ H1 i x y, i < n → S H H1 → fx i = some x → fy i = some y → ∃ a b, ds[i]? = some (.tup [a, b]) ∧ Rp K H1 a x ∧ Rp K H1 b y) : IterOk K S J H ds := by
  subst hn
  refine ⟨G, _, w, hG, fun i H1 v H2 hi s y => ?_⟩
  obtain ⟨T, x, z, rfl, nT, rfl, ex, ez⟩ := y
  obtain ⟨a, b, e, ra, rb⟩ := hd H1 i x z hi s ex ez
  have k : Keep H1 (upd H1 T (.tup [x, z])) := .of (same_new nT)
  exact ⟨same_new nT, _, e, T, _, rfl, .of upd_same, x, _, rfl, ra.keep k, z, _, rfl, rb.keep k, rfl⟩
section
variable {X : Cx} {e : Expr} {g : Ev → Option R} {pos : Pos} {gs : Ev → Option (List R)}
def gEnum (gs : Ev → Option (List R)) : Ev → Option (List D) := fun ρ => match gs ρ with
  | some [.d (.tup ds)] => some (enumD 0 ds)
  | _ => none
theorem fi_enum {p tpos : Pos} {elts : List Expr} {kk : Nat} (hg : Gl X "enumerate") (hm : X.mg "enumerate" = none) (ha : FA X [e] gs) (hs : starEach [e] X.env = [(false, eval e X.env)] := by rfl) :
    PI X (.Tuple elts kk tpos) (.Call (.Name "enumerate" p) [e] [] pos) (tI X.K Keep (gEnum gs)) := pi_imp (pi_et hg hm ha hs) fun σ H Q ⟨H0, ρ, xs, rs, e, q⟩ => by
  unfold gEnum at e
  split at e
  · rename_i ds hds
    cases e
    refine ⟨H0, ρ, _, rs, hds, fun vs H1 s1 o1 => ?_⟩
    obtain ⟨v, ev, a, ws, ew, hs, rv⟩ := o1.one
    subst ev ew
    refine ⟨a, ws, rfl, hs, q _ H1 s1 (pair_ok (by rw [enumD_len, ← rv.length]) (walk_et (xs := ws)) (fun H' k => k.seqT hs) fun H2 i x y hi k ex ey => ?_)⟩
    cases ex
    have hi' : i < ds.length := by
      rw [rv.length] at hi
      exact hi
    have hd := List.getElem?_eq_getElem hi'
    obtain ⟨v', ev', r'⟩ := (rv.keep k).get hd
    rw [ey] at ev'
    cases ev'
    refine ⟨_, _, enumD_get ds 0 i _ hd, ?_, r'⟩
    rw [Int.zero_add]
    rfl
  · cases e
def gZipL (gs : Ev → Option (List R)) : Ev → Option (List D) := fun ρ => match gs ρ with
  | some [.l _ xs, .l _ ys] => some (zipD xs ys)
  | some [.d (.tup xs), .d (.tup ys)] => some (zipD xs ys)
  | _ => none
theorem zip_at {K : PySem.W.Frag} {H : Hp} {xs ys : List D} {ws zs : List V} (r : Rps K H xs ws) (r' : Rps K H ys zs) {i : Nat} {x y : V} (ex : ws[i]? = some x) (ey : zs[i]? = some y) : ∃ a b, (zipD xs ys)[i]? = some (.tup [a, b]) ∧ Rp K H a x ∧ Rp K H b y := by
  have h1 : i < xs.length := by
    rw [← r.length]
    exact (List.getElem?_eq_some_iff.mp ex).1
  have h2 : i < ys.length := by
    rw [← r'.length]
    exact (List.getElem?_eq_some_iff.mp ey).1
  have d1 := List.getElem?_eq_getElem h1
  have d2 := List.getElem?_eq_getElem h2
  obtain ⟨v, ev, rv⟩ := r.get d1
  obtain ⟨u, eu, ru⟩ := r'.get d2
  rw [ex] at ev
  rw [ey] at eu
  cases ev
  cases eu
  exact ⟨_, _, zipD_get xs ys i _ _ d1 d2, rv, ru⟩
theorem fi_zip {e2 : Expr} {p tpos : Pos} {elts : List Expr} {kk : Nat} (hg : Gl X "zip") (hm : X.mg "zip" = none) (ha : FA X [e, e2] gs)
    (hs : starEach [e, e2] X.env = (false, eval e X.env) :: starEach [e2] X.env := by rfl) (hpl : (backTo pos (starEach [e2] X.env)).any (·.1) = false := by rfl) :
    PI X (.Tuple elts kk tpos) (.Call (.Name "zip" p) [e, e2] [] pos) (tI X.K Same (gZipL gs)) := pi_imp (RZ.pi_zipA hg hm ha hs hpl) fun σ H Q ⟨H0, ρ, xs, rs, e, q⟩ => by
  unfold gZipL at e
  split at e
  · rename_i o1 xs o2 ys hds
    cases e
    refine ⟨H0, ρ, _, rs, hds, fun vs H1 s1 o1 => ?_⟩
    obtain ⟨v, v', ev, ⟨a, ws, ew, hs, rv⟩, b, zs, ez, hs', rv'⟩ := o1.two
    subst ev ew ez
    refine ⟨a, b, ws, zs, rfl, .inl ⟨.of hs, .of hs', q _ H1 s1 (pair_ok (by rw [zipD_len, ← rv.length, ← rv'.length]) (walk_zip (xs := ws) (ys := zs) rfl) (fun H' k => ⟨SqL.of (k _ _ hs), SqL.of (k _ _ hs')⟩) fun H2 i x y hi k ex ey => ?_)⟩⟩
    exact zip_at (rv.keep (.of k)) (rv'.keep (.of k)) ex ey
  · rename_i xs ys hds
    cases e
    refine ⟨H0, ρ, _, rs, hds, fun vs H1 s1 o1 => ?_⟩
    obtain ⟨v, v', ev, ⟨a, ws, ew, hs, rv⟩, b, zs, ez, hs', rv'⟩ := o1.two
    subst ev ew ez
    refine ⟨a, b, ws, zs, rfl, .inr ⟨hs, hs', q _ H1 s1 (pair_ok (by rw [zipD_len, ← rv.length, ← rv'.length]) (walk_zt (xs := ws) (ys := zs) rfl) (fun H' k => ⟨(Keep.of k).seqT hs, (Keep.of k).seqT hs'⟩) fun H2 i x y hi k ex ey => ?_)⟩⟩
    exact zip_at (rv.keep (.of k)) (rv'.keep (.of k)) ex ey
  · cases e
def okR62 (j : Int) : Bool := Nat.ble j.natAbs 1000000
theorem okR62_ok {j : Int} (h : okR62 j = true) : -(2 ^ 62) ≤ j ∧ j < 2 ^ 62 := by
  have h1 : j.natAbs ≤ 1000000 := Nat.le_of_ble_eq_true h
  constructor <;> omega
def gRng1 (gs : Ev → Option (List R)) : Ev → Option (List D) := fun ρ => match gs ρ with
  | some [.d (.int j)] => if okR62 j then some (upD 0 j.toNat) else none
  | _ => none
theorem fi_rng1 {tg : Expr} {p : Pos} (hg : Gl X "range") (hm : X.mg "range" = none) (ha : FA X [e] gs) (hs : starEach [e] X.env = [(false, eval e X.env)] := by rfl) :
    PI X tg (.Call (.Name "range" p) [e] [] pos) (tI X.K Keep (gRng1 gs)) := pi_imp (pi_range1 hg hm ha hs) fun σ H Q ⟨H0, ρ, xs, rs, e, q⟩ => by
  unfold gRng1 at e
  split at e
  · rename_i j hj
    split at e
    · rename_i hok
      cases e
      refine ⟨H0, ρ, _, rs, hj, fun vs H1 s1 o1 => ?_⟩
      obtain ⟨v, ev, ov⟩ := o1.one
      subst ev
      have ov' : v = .int j := ov
      subst ov'
      obtain ⟨b1, b2⟩ := okR62_ok hok
      refine ⟨j, rfl, b1, b2, q _ H1 s1 ⟨_, _, by rw [upD_len]; exact walk_range, fun _ _ => trivial, fun i H2 x H3 hi k y => ?_⟩⟩
      obtain ⟨rfl, rfl⟩ := y
      rw [upD_len] at hi
      exact ⟨.refl _, _, upD_get _ 0 i hi, rfl⟩
    · cases e
  · cases e
def gRngD (gs : Ev → Option (List R)) : Ev → Option (List D) := fun ρ => match gs ρ with
  | some [.d (.int i), .d (.int j), .d (.int c)] => if okR62 i && okR62 j && (c == -1) then some (dnD i (i - j).toNat) else none
  | _ => none
theorem fi_rngD {e2 e3 tg : Expr} {p : Pos} (hg : Gl X "range") (hm : X.mg "range" = none) (ha : FA X [e, e2, e3] gs)
    (hs : starEach [e, e2, e3] X.env = (false, eval e X.env) :: starEach [e2, e3] X.env := by rfl) (hpl : (backTo pos (starEach [e2, e3] X.env)).any (·.1) = false := by rfl) :
    PI X tg (.Call (.Name "range" p) [e, e2, e3] [] pos) (tI X.K Keep (gRngD gs)) := pi_imp (pi_range3 hg hm ha hs hpl) fun σ H Q ⟨H0, ρ, xs, rs, e, q⟩ => by
  unfold gRngD at e
  split at e
  · rename_i i j c hj
    split at e
    · rename_i hok
      cases e
      rw [Bool.and_eq_true, Bool.and_eq_true] at hok
      have hc : c = -1 := eq_of_beq hok.2
      subst hc
      refine ⟨H0, ρ, _, rs, hj, fun vs H1 s1 o1 => ?_⟩
      obtain ⟨v, w, ev, ov, o2⟩ := o1
      obtain ⟨v2, v3, ew, ov2, ov3⟩ := Okas.two o2
      subst ev ew
      have z1 : v = .int i := ov
      have z2 : v2 = .int j := ov2
      have z3 : v3 = .int (-1) := ov3
      subst z1 z2 z3
      obtain ⟨b1, b2⟩ := okR62_ok hok.1.1
      obtain ⟨b3, b4⟩ := okR62_ok hok.1.2
      refine ⟨i, j, -1, (i - j).toNat, rfl, RgC.neg b1 b2 b3 b4, q _ H1 s1 ⟨_, _, by rw [dnD_len]; exact walk_rangeC, fun _ _ => trivial, fun k H2 x H3 hi _ y => ?_⟩⟩
      obtain ⟨rfl, rfl⟩ := y
      rw [dnD_len] at hi
      exact ⟨.refl _, _, dnD_get _ i k hi, rfl⟩
    · cases e
  · cases e
end

/-! ### x += e -/
section
variable {X : Cx} {e : Expr} {g : Ev → Option R} {pos : Pos}
def hAug (i : Nat) (f : R → R → Option R) (g : Ev → Option R) : Ev → Option Out := fun ρ => match at' ρ i with
  | some (.d x) => match g ρ with
    | some y => match f (.d x) y with
      | some (.d z) => some (.nx (put ρ i (some (.d z))))
      | _ => none
    | none => none
  | _ => none
def IpS (K : PySem.W.Frag) (t : TIp) (f : R → R → Option R) : Prop := Op2 K t f
theorem fs_aug {i : Nat} {x : Str} {op : Operator} {ti : TIp} {f : R → R → Option R} {pos' : Pos} (hN : X.N.Nodup) (hi : X.N[i]? = some x) (hx : Loc X.env.scope x) (he : FE X e g) (ho : PIp X op ti) (hs : IpS X.K ti f) (hf : X.fn x = true ∨ X.env.scope.names.lookup x = some .local := by first | exact .inl rfl | exact .inr rfl | assumption) :
    FS X (.AugAssign (.Name x pos') op e pos) (hAug i f g) := ps_imp (ps_aug hN hi hx he ho hf) fun D σ H ⟨H0, ρ, o, rs, e, q⟩ => by
  unfold hAug at e
  simp only [put_eq] at e
  split at e
  · rename_i x1 hx1
    split at e
    · rename_i y hy
      split at e
      · rename_i z hz
        cases e
        obtain ⟨v, hv, rv⟩ := rs.pure i _ hx1
        refine ⟨v, hv, H0, ρ, y, rs, hy, fun u H1 s1 o1 => ?_⟩
        exact hs (.d x1) y _ v u H1 _ (rv.keep (.of s1)) o1.arg hz fun w H2 s2 o2 => q _ H2 (.of (s1.trans s2)) ((rs.step (s1.trans s2)).setD o2)
      · cases e
    · cases e
  · cases e
theorem s_ip {K : PySem.W.Frag} {f : Int → Int → Int} : IpS K (ipI f) (fI fun i j => .int (f i j)) := fun x y z v u H Q ox oy e q => by
  obtain ⟨i, j, rfl, rfl, rfl⟩ := fI_inv e
  exact ⟨i, j, ox, oy, q _ H (.refl H) rfl⟩

/-! ### xs[i] = e, xs[i] += e (an own list) -/
theorem RS.own_at {K : PySem.W.Frag} {H0 H : Hp} {σ : L2.St} {ρ : Ev} (rs : RS K H0 σ H ρ) {i : Nat} {xs : List D} (e : at' ρ i = some (.l true xs)) : ∃ a vs, σ[i]? = some (some (.ref a)) ∧ H a = some (.lst vs) ∧ Rps K H xs vs := rs.lst i true xs e
theorem set_nix {xs : List D} {vs : List V} {i : Int} {j : Nat} {K : PySem.W.Frag} {H : Hp} (r : Rps K H xs vs) (h : nix xs.length i = some j) : ixN vs.length i = some j := by
  rw [r.length]
  exact (nix_ok h).1
def putD (ds : List D) : Nat → D → List D := List.rec (motive := fun _ => Nat → D → List D) (fun _ _ => []) (fun d t ih i o => Nat.rec (motive := fun _ => List D) (o :: t) (fun n _ => d :: ih n o) i) ds
theorem putD_eq : ∀ (ds : List D) (i : Nat) (o : D), putD ds i o = ds.set i o
  | [], _, _ => rfl
  | _ :: _, 0, _ => rfl
  | d :: t, n + 1, o => by
    show d :: putD t n o = _
    rw [putD_eq t n o]
    rfl
def hSetIt (i : Nat) (gi ge : Ev → Option R) : Ev → Option Out := fun ρ => match ge ρ with
  | some (.d y) => match at' ρ i with
    | some (.l true xs) => match gi ρ with
      | some (.d (.int k)) => match nix (lenD xs) k with
        | some j => some (.nx (put ρ i (some (.l true (putD xs j y)))))
        | none => none
      | _ => none
    | _ => none
  | _ => none
theorem fs_setIt {i : Nat} {o ix : Expr} {gi : Ev → Option R} {p : Pos} (ho : PE X o (tVar i)) (hi : FE X ix gi) (he : FE X e g)
    (ha : ∀ v, assign (.Subscript o ix p) X.env v = (do
      let ov ← holding [v] (eval o X.env)
      let iv ← holding [v, ov] (eval ix X.env)
      standAt p
      holding [v, ov, iv] (setItem ov iv v)
      release [v, ov, iv] []) := by intro _; rfl)
    (hs : swapsWithSole [.Subscript o ix p] e pos.line X.env = pure false := by rfl) (hw : swappedStores [.Subscript o ix p] e X.env = pure none := by rfl)
    (h1 : (assignEach [.Subscript o ix p] X.env).map (·.2) = [assign (.Subscript o ix p) X.env] := by rfl) : FS X (.Assign [.Subscript o ix p] e pos) (hSetIt i gi g) := ps_imp (ps_asg he (pg_sub ho hi set_list ha) hs hw h1) fun D σ H ⟨H0, ρ, o, rs, e, q⟩ => by
  unfold hSetIt at e
  simp only [put_eq, putD_eq, lenD_eq] at e
  split at e
  · rename_i y hy
    split at e
    · rename_i xs hxs
      split at e
      · rename_i k hk
        split at e
        · rename_i j hj
          cases e
          refine ⟨H0, ρ, _, rs, hy, fun v H1 s1 o1 => ?_⟩
          obtain ⟨a, vs, ha, hl, rl⟩ := rs.own_at hxs
          refine ⟨.ref a, ha, H0, ρ, _, rs.step s1, hk, fun w H2 s2 o2 => ?_⟩
          have hl2 := s2 _ _ (s1 _ _ hl)
          refine ⟨a, vs, k, j, rfl, o2, hl2, set_nix rl hj, q σ _ ((Keep.of (s1.trans s2)).trans (.upd hl2)) ?_⟩
          exact (rs.step (s1.trans s2)).mut hxs ha (Rps.set (Rp.keep (.of s2) o1) j (rl.keep (.of (s1.trans s2))))
        · cases e
      · cases e
    · cases e
  · cases e
def tGetL : V → V → Hp → VK → Prop := fun o i H Q => ∃ p xs k j v, o = .ref p ∧ i = .int k ∧ H p = some (.lst xs) ∧ ixN xs.length k = some j ∧ xs[j]? = some v ∧ Q v H
theorem get_list : PGet X tGetL := by
  intro pins s σ H o i ov iv Q I ro ri h
  obtain ⟨p, xs, k, j, v, rfl, rfl, hp, hj, hv, q⟩ := h
  cases ro
  obtain ⟨t, rfl⟩ := ri
  obtain ⟨its, r, pl, hz⟩ := I.list (.of hp)
  obtain ⟨w, ew, rw'⟩ := r.get hv
  obtain ⟨h1, h2, h3, h4⟩ := ixN_seq hj
  have hl := r.length
  have hn := line63
  by_cases h0 : 0 ≤ k
  · have hk : k.toNat = j := by
      rw [seqIndex_of h0 h4] at h1
      exact Option.some.inj h1
    exact wpAny_getItem_list pl.isList h0 (by omega) (x := w) (by rw [hk]; simpa using ew) ⟨v, H, I, rw', q⟩
  · have hk : (k + (its.toArray.size : Int)).toNat = j := by
      rw [seqIndex_neg (by omega) h3] at h1
      rw [List.size_toArray, ← hl]
      exact Option.some.inj h1
    exact wpAny_getItem_list_neg pl.isList (by omega) (by rw [List.size_toArray, ← hl]; exact h3) (by omega) (x := w) (by rw [hk]; simpa using ew) ⟨v, H, I, rw', q⟩
def hAugIt (i : Nat) (f : R → R → Option R) (gi ge : Ev → Option R) : Ev → Option Out := fun ρ => match at' ρ i with
  | some (.l true xs) => match gi ρ with
    | some (.d (.int k)) => match nix (lenD xs) k with
      | some j => match nth xs j with
        | some x => match ge ρ with
          | some y => match f (.d x) y with
            | some (.d z) => some (.nx (put ρ i (some (.l true (putD xs j z)))))
            | _ => none
          | none => none
        | none => none
      | none => none
    | _ => none
  | _ => none
theorem fs_augIt {i : Nat} {o ix : Expr} {gi : Ev → Option R} {op : Operator} {ti : TIp} {f : R → R → Option R} {p : Pos} (ho : PE X o (tVar i)) (hi : FE X ix gi) (he : FE X e g) (hp : PIp X op ti) (hs : IpS X.K ti f)
    (ha : ∀ ov iv new, augStore ix ov iv new = (do holding [new, ov, iv] (setItem ov iv new); release [new, ov, iv] []; pure .next) := by intros; rfl) : FS X (.AugAssign (.Subscript o ix p) op e pos) (hAugIt i f gi g) := ps_imp (ps_augS ho hi get_list he hp set_list ha) fun D σ H ⟨H0, ρ, o, rs, e, q⟩ => by
  unfold hAugIt at e
  simp only [put_eq, putD_eq, lenD_eq, nth_eq] at e
  split at e
  · rename_i xs hxs
    split at e
    · rename_i k hk
      split at e
      · rename_i j hj
        split at e
        · rename_i x hx
          split at e
          · rename_i y hy
            split at e
            · rename_i z hz
              cases e
              obtain ⟨a, vs, ha, hl, rl⟩ := rs.own_at hxs
              refine ⟨.ref a, ha, H0, ρ, _, rs, hk, fun w H1 s1 o1 => ?_⟩
              obtain ⟨v, hv, rv⟩ := rl.get hx
              refine ⟨a, vs, k, j, v, rfl, o1, s1 _ _ hl, set_nix rl hj, hv, H0, ρ, y, rs.step s1, hy, fun u H2 s2 o2 => ?_⟩
              refine hs (.d x) y _ v u H2 _ (rv.keep (.of (s1.trans s2))) o2.arg hz fun w3 H3 s3 o3 => ?_
              have s13 := (s1.trans s2).trans s3
              have hl3 := s13 _ _ hl
              refine ⟨a, vs, k, j, rfl, o1, hl3, set_nix rl hj, q σ _ ((Keep.of s13).trans (.upd hl3)) ?_⟩
              exact (rs.step s13).mut hxs ha (Rps.set o3 j (rl.keep (.of s13)))
            · cases e
          · cases e
        · cases e
      · cases e
    · cases e
  · cases e

/-! ### methods of an own list -/
def hAppend (i : Nat) (g : Ev → Option R) : Ev → Option Out := fun ρ => match at' ρ i with
  | some (.l true xs) => match g ρ with
    | some (.d y) => if Nat.ble (lenD xs) 1000 then some (.nx (put ρ i (some (.l true (xs ++ [y]))))) else none
    | _ => none
  | _ => none
theorem fs_append {i : Nat} {o : Expr} {apos cpos : Pos} (ho : PE X o (tVar i)) (he : FE X e g)
    (hp : ∀ {to : TE} {t : TA}, PE X o to → PA X [e] t → PE X (.Call (.Attribute o "append" apos) [e] [] cpos) (tBM X.K "list" rAppend to t))
    (hs : swapsWith (.Call (.Attribute o "append" apos) [e] [] cpos) none pos.line X.env = pure false := by rfl) (hst : starEach [e] X.env = (false, eval e X.env) :: starEach [] X.env := by rfl) :
    FS X (.Expr (.Call (.Attribute o "append" apos) [e] [] cpos) pos) (hAppend i g) := ps_imp (ps_expr (hp ho (pa_cons he pa_nil hst)) hs) fun D σ H ⟨H0, ρ, o, rs, e, q⟩ => by
  unfold hAppend at e
  simp only [put_eq, lenD_eq] at e
  split at e
  · rename_i xs hxs
    split at e
    · rename_i y hy
      split at e
      · rename_i hz
        cases e
        obtain ⟨a, vs, ha, hl, rl⟩ := rs.own_at hxs
        refine ⟨.ref a, ha, .inl ⟨rfl, vs, .of hl⟩, H0, ρ, _, rs, hy, fun v H1 s1 o1 => ?_⟩
        have hl1 := s1 _ _ hl
        refine ⟨a, vs, v, rfl, rfl, hl1, ?_, q σ _ ((Keep.of s1).trans (.upd hl1)) ?_⟩
        · rw [rl.length]
          exact small1000 (Nat.le_of_ble_eq_true hz)
        · exact (rs.step s1).mut hxs ha ((rl.keep (.of s1)).append (.one o1))
      · cases e
    · cases e
  · cases e
/-- xs.pop(), its value dropped -/
def hPop (i : Nat) : Ev → Option Out := fun ρ => match at' ρ i with
  | some (.l true (x :: xs)) => some (.nx (put ρ i (some (.l true (x :: xs).dropLast))))
  | _ => none
theorem fs_pop {i : Nat} {o : Expr} {apos cpos : Pos} (ho : PE X o (tVar i)) (hp : ∀ {to : TE}, PE X o to → PE X (.Call (.Attribute o "pop" apos) [] [] cpos) (tBM0 X.K "list" rPop to))
    (hs : swapsWith (.Call (.Attribute o "pop" apos) [] [] cpos) none pos.line X.env = pure false := by rfl) :
    FS X (.Expr (.Call (.Attribute o "pop" apos) [] [] cpos) pos) (hPop i) := ps_imp (ps_expr (hp ho) hs) fun D σ H ⟨H0, ρ, o, rs, e, q⟩ => by
  unfold hPop at e
  simp only [put_eq] at e
  split at e
  · rename_i x xs hxs
    cases e
    obtain ⟨a, vs, ha, hl, rl⟩ := rs.own_at hxs
    have hlen : vs.length = (x :: xs).length := rl.length
    rw [List.length_cons] at hlen
    have hlt : vs.length - 1 < vs.length := by omega
    refine ⟨.ref a, ha, .inl ⟨rfl, vs, .of hl⟩, a, vs, _, rfl, rfl, hl, List.getElem?_eq_getElem hlt, q σ _ (.upd hl) ?_⟩
    exact rs.mut hxs ha rl.dropLast
  · cases e
/-- a, b = xs.pop(0) -/
def hPop0 (i : Nat) (tg : Tg) : Ev → Option Out := fun ρ => match at' ρ i with
  | some (.l true (x :: xs)) => match asg tg x (put ρ i (some (.l true xs))) with
    | some ρ' => some (.nx ρ')
    | none => none
  | _ => none
theorem fs_pop0 {i : Nat} {o tgE : Expr} {tg : Tg} {apos cpos zp : Pos} {zk : Nat} (ho : PE X o (tVar i)) (hg : PG X tgE (tgR X.K tg))
    (hp : ∀ {to : TE} {t : TA}, PE X o to → PA X [.Constant (.int 0) zk zp] t → PE X (.Call (.Attribute o "pop" apos) [.Constant (.int 0) zk zp] [] cpos) (tBM X.K "list" rPopAt to t))
    (hs : swapsWithSole [tgE] (.Call (.Attribute o "pop" apos) [.Constant (.int 0) zk zp] [] cpos) pos.line X.env = pure false := by rfl) (hw : swappedStores [tgE] (.Call (.Attribute o "pop" apos) [.Constant (.int 0) zk zp] [] cpos) X.env = pure none := by rfl)
    (h1 : (assignEach [tgE] X.env).map (·.2) = [assign tgE X.env] := by rfl) : FS X (.Assign [tgE] (.Call (.Attribute o "pop" apos) [.Constant (.int 0) zk zp] [] cpos) pos) (hPop0 i tg) := ps_imp (ps_asg (hp ho (pa_cons pe_int pa_nil)) hg hs hw h1) fun D σ H ⟨H0, ρ, o, rs, e, q⟩ => by
  unfold hPop0 at e
  simp only [put_eq] at e
  split at e
  · rename_i x xs hxs
    split at e
    · rename_i ρ' hρ
      cases e
      obtain ⟨a, vs, ha, hl, rl⟩ := rs.own_at hxs
      obtain ⟨v, r, ev, rv, rr⟩ := rl
      subst ev
      have hR : RS X.K H0 σ (upd H a (.lst r)) (ρ.set i (some (.l true xs))) := rs.mut hxs ha rr
      refine ⟨.ref a, ha, .inl ⟨rfl, v :: r, .of hl⟩, a, v :: r, 0, 0, v, rfl, rfl, hl, by decide, by decide, ?_, rfl, ?_⟩
      · show seqIndex? 0 (v :: r).length = some 0
        exact (ixN_seq (n := (v :: r).length) (i := 0) (j := 0) (by
          unfold ixN
          rw [if_pos (by omega), if_pos (by rw [List.length_cons]; omega)]
          rfl)).1
      · exact tg_ok hR (Rp.keep (.upd hl) rv) hρ fun σ' _ r' => q σ' _ (.upd hl) r'
    · cases e
  · cases e

/-! ### isinstance(e, T) -/
def isD : String → R → Option Bool
  | T, .d (.int _) => kitB "int" T
  | T, .d (.bl _) => kitB "bool" T
  | T, .d (.tup _) => kitB "tuple" T
  | _, _ => none
def gIs (T : String) (g : Ev → Option R) : Ev → Option R := fun ρ => match g ρ with
  | some x => match isD T x with
    | some b => some (.d (.bl b))
    | none => none
  | none => none
theorem tyT {K : PySem.W.Frag} {H : Hp} {a : Addr} {vs : List V} (h : SqT K H a vs) : TyX K H (.ref a) (.type "tuple") := by
  rcases h with (h | ⟨o, h⟩) | ⟨o, its, n, hk, hc, _⟩
  · exact .base (.tup h)
  · exact .fTuple h
  · exact .kTuple hk hc
theorem fe_is {T : String} {x : Str} {p pos2 : Pos} (hg : Gl X "isinstance") (hm : X.mg "isinstance" = none) (hgT : Gl X x) (hmT : X.mg x = none) (hv : bootBuiltins x = some (.type T)) (hn : x ≠ "__name__") (hd : (x == ("__debug__" : Str)) = false) (he : FE X e g)
    (hs : starEach [e, .Name x p] X.env = (false, eval e X.env) :: starEach [.Name x p] X.env := by rfl) (hs2 : starEach [.Name x p] X.env = (false, eval (.Name x p) X.env) :: starEach [] X.env := by rfl) (hpl : (backTo pos (starEach [.Name x p] X.env)).any (·.1) = false := by rfl) :
    FE X (.Call (.Name "isinstance" pos2) [e, .Name x p] [] pos) (gIs T g) :=
  pe_imp (pe_callB call_isi hg hm boot_isinstance (pa_cons he (pa_cons (pe_bltn (v := .ty T) hgT hmT hv rfl hn hd) pa_nil hs2) hs) (by decide) (by decide) hs hpl) fun σ H Q ⟨H0, ρ, z, rs, e, q⟩ => by
  unfold gIs at e
  split at e
  · rename_i r hr
    split at e
    · rename_i b hb
      cases e
      refine ⟨H0, ρ, r, rs, hr, fun v H1 s1 o1 => ?_⟩
      have fin : ∀ t : String, TyX X.K H1 v (.type t) → kitB t T = some b → rIsi X.K [v, .ty T] H1 Q := fun t ty hk => ⟨v, .ty T, .type t, .type T, b, rfl, .ty T, ty, kit_ty hk, q _ H1 s1 rfl⟩
      show rIsi X.K [v, .ty T] H1 Q
      unfold isD at hb
      split at hb
      · rename_i i
        have ev : v = .int i := o1
        subst ev
        exact fin "int" (.base (.int i)) hb
      · rename_i i
        have ev : v = .bl i := o1
        subst ev
        exact fin "bool" (.base (.bl i)) hb
      · obtain ⟨a, vs, ev, hs, _⟩ := o1
        subst ev
        exact fin "tuple" (tyT hs) hb
      · cases hb
    · cases e
  · cases e
end

/-! ### defs -/
def nones (k : Nat) : Ev := Nat.rec (motive := fun _ => Ev) [] (fun _ ih => none :: ih) k
theorem nones_eq : ∀ k : Nat, nones k = List.replicate k none
  | 0 => rfl
  | k + 1 => by
    show none :: nones k = _
    rw [nones_eq k]
    rfl
def initE (rs : List R) (k : Nat) : Ev := List.rec (motive := fun _ => Ev) (nones k) (fun r _ ih => (match r with
  | .d x => some (.d x)
  | .l _ xs => some (.l false xs)) :: ih) rs
theorem initE_len (k : Nat) : ∀ rs : List R, (initE rs k).length = rs.length + k
  | [] => by
    show (nones k).length = 0 + k
    rw [nones_eq, List.length_replicate, Nat.zero_add]
  | r :: rs => by
    show (initE rs k).length + 1 = rs.length + 1 + k
    rw [initE_len k rs]
    omega
def lenIs (rs : List R) : Nat → Bool := List.rec (motive := fun _ => Nat → Bool) (fun n => Nat.rec (motive := fun _ => Bool) true (fun _ _ => false) n) (fun _ _ ih n => Nat.rec (motive := fun _ => Bool) false (fun m _ => ih m) n) rs
theorem lenIs_ok : ∀ {rs : List R} {n : Nat}, lenIs rs n = true → rs.length = n
  | [], 0, _ => rfl
  | [], _ + 1, h => by cases h
  | _ :: _, 0, h => by cases h
  | _ :: rs, n + 1, h => by
    rw [List.length_cons, lenIs_ok (rs := rs) (n := n) h]
def runF (n k : Nat) (h : Ev → Option Out) (rs : List R) : Option R := match lenIs rs n with
  | true => (match h (initE rs k) with
    | some (.rt r) => some r
    | some (.nx _) => some (.d .non)
    | _ => none)
  | false => none
theorem runF_len {n k : Nat} {h : Ev → Option Out} {rs : List R} {z : R} (e : runF n k h rs = some z) : rs.length = n := by
  unfold runF at e
  split at e
  · rename_i hl
    exact lenIs_ok hl
  · cases e
theorem rep_at {k i : Nat} {r : R} (h : at' (List.replicate k none) i = some r) : False := by
  have e := at_get h
  rw [List.getElem?_replicate] at e
  split at e
  · cases e
  · cases e
theorem init_at {K : PySem.W.Frag} {H : Hp} {k : Nat} : ∀ {rs : List R} {vs : List V} {i : Nat} {r : R}, Okas K H rs vs → at' (initE rs k) i = some r → ∃ v, (vs.map some)[i]? = some (some v) ∧ okA K H r v ∧ (∀ xs, r ≠ .l true xs)
  | [], _, i, r, o, e => by
    have e' : at' (nones k) i = some r := e
    rw [nones_eq] at e'
    exact (rep_at e').elim
  | r0 :: rs, _, 0, r, ⟨v, w, ev, h1, h2⟩, e => by
    subst ev
    cases r0 with
    | d x =>
      have e' : some (R.d x) = some r := e
      cases e'
      exact ⟨v, rfl, h1, fun xs z => nomatch z⟩
    | l o xs =>
      have e' : some (R.l false xs) = some r := e
      cases e'
      exact ⟨v, rfl, h1, fun xs z => nomatch z⟩
  | r0 :: rs, _, i + 1, r, ⟨v, w, ev, h1, h2⟩, e => by
    subst ev
    exact init_at (rs := rs) (i := i) h2 e
theorem init_RS {K : PySem.W.Frag} {H : Hp} {k : Nat} {rs : List R} {vs : List V} (o : Okas K H rs vs) : RS K H (vs.map some ++ List.replicate k none) H (initE rs k) := by
  have get : ∀ {i : Nat} {v : V}, (vs.map some)[i]? = some (some v) → (vs.map some ++ List.replicate k none)[i]? = some (some v) := fun {i v} h => by
    rw [List.getElem?_append_left (List.getElem?_eq_some_iff.mp h).1]
    exact h
  refine ⟨.refl H, ?_, fun i x e => ?_, fun i b xs e => ?_, fun i xs a e _ => ?_⟩
  · rw [initE_len, List.length_append, List.length_map, o.length, List.length_replicate]
  · obtain ⟨v, hv, r, _⟩ := init_at o e
    exact ⟨v, get hv, r⟩
  · obtain ⟨v, hv, ⟨a, ws, ev, hl, rl⟩, _⟩ := init_at o e
    subst ev
    exact ⟨a, ws, get hv, hl, rl⟩
  · obtain ⟨v, hv, r, n⟩ := init_at o e
    exact absurd rfl (n xs)
theorem body_ok {K : PySem.W.Frag} {n k : Nat} {N : List Str} {h : Ev → Option Out} {vs : List V} {H : Hp} {Q : VK} {E : XK} (hk : N.length - n = k) (s : spF K n (runF n k h) vs H Q E) : tS K h { nx := fun _ H' => Q .non H', rt := Q } (L2.start N vs) H := by
  obtain ⟨rs, z, hl, o, e, q⟩ := s
  unfold runF at e
  split at e
  · have R := init_RS (k := k) o
    have es : L2.start N vs = vs.map some ++ List.replicate k none := by
      unfold L2.start
      rw [hl, hk]
    rw [← es] at R
    split at e
    · rename_i r hr
      cases e
      exact ⟨H, _, _, R, hr, fun v H' s1 o1 => q v H' s1 o1⟩
    · rename_i ρ' hr
      cases e
      exact ⟨H, _, _, R, hr, fun σ' H' _ r' => q .non H' r'.same rfl⟩
    · cases e
  · cases e
/-- a def's body computes h: the def computes runF -/
theorem fn_mk {P : Program} {w : World} {K : PySem.W.Frag} {mg : Str → Option Value} {base : Heap} {x qual : Str} {st : Stmt} {f : Addr} {fd : FuncData} {N ps : List Str} {k n m : Nat} {h : Ev → Option Out} (F : Fun K x qual st f fd) (S : FnScope N ps (defScope st))
    (hn : ps.length = n) (hm : N.length - n = m) (hmg : mg x = some (.ref f)) (hb : Binds K fd ps [])
    (hbody : ∀ (cdv : Value) (A : Around) (outer : List Env) (s : Shared) (H : Hp) (E : XK), Room k (A.deeper (envOfC qual (defScope st) s.heap.objs.size f cdv)) →
      FSs (cxOf CX0 P w K mg base N qual (defScope st) f cdv A outer s H E).nox (defBody st) h) : Fn P w K mg base x (k + 1) ps (runF n m h) where
  ar := fun rs z e => (runF_len e).trans hn.symm
  ex := by
    refine ⟨f, fd, ?_, hmg, F.kp, hb⟩
    rw [hn]
    refine F.ok S (fun vs H Q E h => ?_) (fun cdv A outer s H vs Q E hr h => ?_)
    · obtain ⟨rs, z, hl, _⟩ := h
      exact hl.trans hn.symm
    · exact ⟨_, hbody cdv A outer s H E hr, body_ok hm h⟩
/-- a smaller function in its place -/
theorem Fn.weak {P : Program} {w : World} {K : PySem.W.Frag} {mg : Str → Option Value} {base : Heap} {x : Str} {k : Nat} {ps : List Str} {m m' : List R → Option R} (F : Fn P w K mg base x k ps m) (h : ∀ rs z, m' rs = some z → m rs = some z) : Fn P w K mg base x k ps m' where
  ar := fun rs z e => F.ar rs z (h rs z e)
  ex := by
    obtain ⟨f, fd, F1, a, b, c⟩ := F.ex
    exact ⟨f, fd, F1.imp fun vs H Q E ⟨rs, z, h1, h2, h3, h4⟩ => ⟨rs, z, h1, h2, h rs z h3, h4⟩, a, b, c⟩
end FL
end
end -- FLP
section -- GH0
set_option Elab.async false
set_option linter.all false
set_option maxRecDepth 100000
/-! numbers and polynomials as the kernel reckons them fast -/
noncomputable section
namespace FT
open PySem PySem.Spec PyProof.Rows L2 FL

/-! ### values are reckoned before they are handed on -/
def forceN {α : Type} (n : Nat) (k : Nat → α) : α := Nat.rec (motive := fun _ => α) (k 0) (fun m _ => k (Nat.succ m)) n
theorem forceN_eq {α : Type} (n : Nat) (k : Nat → α) : forceN n k = k n := by cases n <;> rfl
def forceI {α : Type} (i : Int) (k : Int → α) : α := Int.rec (motive := fun _ => α) (fun n => forceN n fun m => k (.ofNat m)) (fun n => forceN n fun m => k (.negSucc m)) i
theorem forceI_eq {α : Type} (i : Int) (k : Int → α) : forceI i k = k i := by
  cases i with
  | ofNat n => exact forceN_eq n (fun m => k (Int.ofNat m))
  | negSucc n => exact forceN_eq n (fun m => k (Int.negSucc m))
def forceL {α : Type} (p : List Int) : (List Int → α) → α := List.rec (motive := fun _ => (List Int → α) → α) (fun k => k []) (fun a _ ih k => forceI a fun b => ih fun r => k (b :: r)) p
theorem forceL_eq {α : Type} : ∀ (p : List Int) (k : List Int → α), forceL p k = k p
  | [], k => rfl
  | a :: p, k => by
    show forceI a (fun b => forceL p fun r => k (b :: r)) = _
    rw [forceI_eq, forceL_eq p]
def forceD {α : Type} (p : List Int) : (List D → α) → α := List.rec (motive := fun _ => (List D → α) → α) (fun k => k []) (fun a _ ih k => forceI a fun b => ih fun r => k (.int b :: r)) p
theorem forceD_eq {α : Type} : ∀ (p : List Int) (k : List D → α), forceD p k = k (p.map D.int)
  | [], k => rfl
  | a :: p, k => by
    show forceI a (fun b => forceD p fun r => k (.int b :: r)) = _
    rw [forceI_eq, forceD_eq p]
    rfl
def intsOf (ds : List D) : Option (List Int) := List.rec (motive := fun _ => Option (List Int)) (some []) (fun d _ ih => match d with
  | .int i => match ih with
    | some is => some (i :: is)
    | none => none
  | _ => none) ds
theorem intsOf_ok : ∀ {ds : List D} {p : List Int}, intsOf ds = some p → ds = p.map D.int
  | [], p, h => by
    cases h
    rfl
  | .int i :: ds, p, h => by
    have h' : (match intsOf ds with
      | some is => some (i :: is)
      | none => none) = some p := h
    split at h'
    · rename_i is his
      cases h'
      rw [intsOf_ok his]
      rfl
    · cases h'
  | .non :: ds, p, h => by
    have h' : (none : Option (List Int)) = some p := h
    cases h'
  | .bl _ :: ds, p, h => by
    have h' : (none : Option (List Int)) = some p := h
    cases h'
  | .tup _ :: ds, p, h => by
    have h' : (none : Option (List Int)) = some p := h
    cases h'
theorem intsOf_map : ∀ p : List Int, intsOf (p.map D.int) = some p
  | [] => rfl
  | a :: p => by
    show (match intsOf (p.map D.int) with
      | some is => some (a :: is)
      | none => none) = _
    rw [intsOf_map p]
def len (p : List Int) : Nat := List.rec (motive := fun _ => Nat) 0 (fun _ _ ih => Nat.succ ih) p
theorem len_eq : ∀ p : List Int, len p = p.length
  | [] => rfl
  | a :: p => by
    show Nat.succ (len p) = _
    rw [len_eq p]
    rfl
def ltZ (i : Int) : Bool := Int.rec (motive := fun _ => Bool) (fun _ => false) (fun _ => true) i
theorem ltZ_eq (i : Int) : ltZ i = decide (i < 0) := by
  cases i with
  | ofNat n => exact (decide_eq_false (by show ¬ ((n : Int) < 0); omega)).symm
  | negSucc n => exact (decide_eq_true (by rw [Int.negSucc_eq]; omega)).symm
def isZ (i : Int) : Bool := Int.rec (motive := fun _ => Bool) (fun n => Nat.beq n 0) (fun _ => false) i
theorem isZ_eq (i : Int) : isZ i = decide (i = 0) := by
  cases i with
  | ofNat n =>
    cases n with
    | zero => rfl
    | succ n => exact (decide_eq_false (by show ¬ (((n + 1 : Nat) : Int) = 0); omega)).symm
  | negSucc n => exact (decide_eq_false (by rw [Int.negSucc_eq]; omega)).symm
def okD (i : Int) : Bool := Int.rec (motive := fun _ => Bool) (fun n => Nat.ble 1 n && Nat.ble n 1073741823) (fun n => Nat.ble n 1073741822) i
theorem okD_ok {i : Int} (h : okD i = true) : (!(i == 0) && Nat.ble i.natAbs 1073741823) = true := by
  cases i with
  | ofNat n =>
    have h' : (Nat.ble 1 n && Nat.ble n 1073741823) = true := h
    rw [Bool.and_eq_true] at h'
    have h1 := Nat.le_of_ble_eq_true h'.1
    rw [Bool.and_eq_true]
    refine ⟨?_, h'.2⟩
    have e : ((Int.ofNat n) == 0) = false := by
      rw [beq_eq_false_iff_ne]
      show (n : Int) ≠ 0
      omega
    rw [e]
    rfl
  | negSucc n =>
    have h' : Nat.ble n 1073741822 = true := h
    have h1 := Nat.le_of_ble_eq_true h'
    rw [Bool.and_eq_true]
    constructor
    · have e : ((Int.negSucc n) == 0) = false := by
        rw [beq_eq_false_iff_ne, Int.negSucc_eq]
        omega
      rw [e]
      rfl
    · apply Nat.ble_eq_true_of_le
      show n + 1 ≤ 1073741823
      omega
def okM (i j : Int) : Bool := Nat.ble i.natAbs 18446744073709551615 || Nat.ble j.natAbs 18446744073709551615
theorem okM_eq (i j : Int) : okM i j = okMul i j := rfl

/-! ### zeros at the end -/
def trimR (p : List Int) : List Int := List.rec (motive := fun _ => List Int) [] (fun a _ ih => match ih with
  | [] => if isZ a then [] else [a]
  | b :: r => a :: b :: r) p
def trimLen (p : List Int) : Nat → Nat
  | 0 => 0
  | n + 1 => if p[n]? = some 0 then trimLen p n else n + 1
theorem trimR_snoc (a : Int) : ∀ p : List Int, trimR (p ++ [a]) = if a = 0 then trimR p else p ++ [a]
  | [] => by
    show (if isZ a then [] else [a]) = _
    rw [isZ_eq]
    by_cases h : a = 0
    · rw [if_pos h, if_pos (decide_eq_true h)]
      rfl
    · rw [if_neg h, if_neg (by simp [h])]
      rfl
  | b :: p => by
    have e1 : trimR (b :: (p ++ [a])) = (match trimR (p ++ [a]) with
      | [] => if isZ b then [] else [b]
      | c :: r => b :: c :: r) := rfl
    have e2 : trimR (b :: p) = (match trimR p with
      | [] => if isZ b then [] else [b]
      | c :: r => b :: c :: r) := rfl
    rw [List.cons_append, e1, e2, trimR_snoc a p]
    by_cases h : a = 0
    · rw [if_pos h, if_pos h]
    · rw [if_neg h, if_neg h]
      cases p with
      | nil => rfl
      | cons c r => rfl
theorem trimR_take (p : List Int) : ∀ n, n ≤ p.length → trimR (p.take n) = p.take (trimLen p n)
  | 0, _ => rfl
  | n + 1, h => by
    have hn : n < p.length := h
    have e : p[n]? = some p[n] := List.getElem?_eq_getElem hn
    rw [List.take_succ_eq_append_getElem hn, trimR_snoc]
    unfold trimLen
    by_cases hz : p[n] = 0
    · rw [if_pos hz, if_pos (by rw [e, hz]), trimR_take p n (by omega)]
    · rw [if_neg hz, if_neg (by
        rw [e]
        intro q
        exact hz (Option.some.inj q)), List.take_succ_eq_append_getElem hn]
theorem trimR_eq (p : List Int) : trimR p = p.take (trimLen p p.length) := by
  have := trimR_take p p.length (Nat.le_refl _)
  rw [List.take_length] at this
  exact this
theorem trimLen_le (p : List Int) : ∀ n, trimLen p n ≤ n
  | 0 => Nat.le_refl _
  | n + 1 => by
    unfold trimLen
    split
    · have := trimLen_le p n
      omega
    · exact Nat.le_refl _
theorem ix_at {ds : List D} {p : List Int} (e : ds = p.map D.int) (n : Nat) (h : n < p.length) : ixD ds (Int.ofNat n) = some (.int p[n]) := by
  subst e
  have e1 : nix (p.map D.int).length (Int.ofNat n) = some n := by
    show (if Nat.blt n (p.map D.int).length then some n else none) = some n
    rw [List.length_map, if_pos]
    rw [Nat.blt_eq]
    exact h
  unfold ixD
  rw [lenD_eq, e1]
  show nth (p.map D.int) n = _
  rw [nth_eq, List.getElem?_map, List.getElem?_eq_getElem h]
  rfl
theorem ix_last {ds : List D} {p : List Int} {a : Int} (e : ds = p.map D.int) (h : p.getLast? = some a) : ixD ds (Int.negSucc 0) = some (.int a) := by
  subst e
  have hp : p ≠ [] := fun z => by
    subst z
    cases h
  have hl : 0 < p.length := List.length_pos_iff.mpr hp
  have e1 : nix (p.map D.int).length (Int.negSucc 0) = some (p.length - 1) := by
    show (if Nat.blt 0 (p.map D.int).length then some ((p.map D.int).length - 1 - 0) else none) = _
    rw [List.length_map, if_pos]
    · rfl
    · rw [Nat.blt_eq]
      exact hl
  unfold ixD
  rw [lenD_eq, e1]
  show nth (p.map D.int) (p.length - 1) = _
  rw [nth_eq]
  rw [List.getLast?_eq_getElem?] at h
  rw [List.getElem?_map, h]
  rfl

/-! ### steps of the mirrors -/
theorem e_mul {i j : Int} (h : okMul i j = true) : fMul (.d (.int i)) (.d (.int j)) = some (.d (.int (i * j))) := by
  show (if okMul i j then some (R.d (.int (i * j))) else none) = _
  rw [if_pos h]
theorem e_div {i j : Int} (h : okD j = true) : fDiv (.d (.int i)) (.d (.int j)) = some (.d (.int (i.fdiv j))) := by
  show (if !(j == 0) && Nat.ble j.natAbs 1073741823 then some (R.d (.int (i.fdiv j))) else none) = _
  rw [if_pos (okD_ok h)]
theorem g2_of {f : R → R → Option R} {ga gb : Ev → Option R} {ρ : Ev} {x y : R} (h1 : ga ρ = some x) (h2 : gb ρ = some y) : g2 f ga gb ρ = f x y := by
  unfold g2
  rw [h1]
  simp only [h2]
theorem g1_of {f : R → Option R} {ga : Ev → Option R} {ρ : Ev} {x : R} (h1 : ga ρ = some x) : g1 f ga ρ = f x := by
  unfold g1
  rw [h1]
theorem call_of {m : List R → Option R} {gs : Ev → Option (List R)} {ρ : Ev} {rs : List R} (h1 : gs ρ = some rs) : gCall m gs ρ = m rs := by
  unfold gCall
  rw [h1]
theorem cons_of {ga : Ev → Option R} {gs : Ev → Option (List R)} {ρ : Ev} {x : R} {rs : List R} (h1 : ga ρ = some x) (h2 : gs ρ = some rs) : FL.gCons ga gs ρ = some (x :: rs) := by
  unfold FL.gCons
  rw [h1]
  simp only [h2]
theorem call1_of {m : List R → Option R} {ga : Ev → Option R} {ρ : Ev} {x : R} (h1 : ga ρ = some x) : gCall m (FL.gCons ga FL.gNil) ρ = m [x] := call_of (cons_of h1 rfl)
theorem call2_of {m : List R → Option R} {ga gb : Ev → Option R} {ρ : Ev} {x y : R} (h1 : ga ρ = some x) (h2 : gb ρ = some y) : gCall m (FL.gCons ga (FL.gCons gb FL.gNil)) ρ = m [x, y] := call_of (cons_of h1 (cons_of h2 rfl))
theorem e_ix0 {x : D} {xs : List D} : fIx (.d (.tup (x :: xs))) (.d (.int 0)) = some (.d x) := rfl
theorem e_ix1 {x y : D} {xs : List D} : fIx (.d (.tup (x :: y :: xs))) (.d (.int 1)) = some (.d y) := rfl
theorem e_at0 {a : Option R} {t : Ev} : at' (a :: t) 0 = a := rfl
theorem e_at1 {a b : Option R} {t : Ev} : at' (a :: b :: t) 1 = b := rfl
theorem e_at2 {a b c : Option R} {t : Ev} : at' (a :: b :: c :: t) 2 = c := rfl
theorem e_at3 {a b c d : Option R} {t : Ev} : at' (a :: b :: c :: d :: t) 3 = d := rfl
theorem e_put0 {a o : Option R} {t : Ev} : put (a :: t) 0 o = o :: t := rfl
theorem e_put1 {a b o : Option R} {t : Ev} : put (a :: b :: t) 1 o = a :: o :: t := rfl
theorem e_put2 {a b c o : Option R} {t : Ev} : put (a :: b :: c :: t) 2 o = a :: b :: o :: t := rfl
theorem e_put3 {a b c d o : Option R} {t : Ev} : put (a :: b :: c :: d :: t) 3 o = a :: b :: c :: o :: t := rfl
theorem e_put4 {a b c d f o : Option R} {t : Ev} : put (a :: b :: c :: d :: f :: t) 4 o = a :: b :: c :: d :: o :: t := rfl
theorem e_init1 {x : D} {k : Nat} : initE [.d x] k = some (.d x) :: nones k := rfl
theorem e_init2 {x y : D} {k : Nat} : initE [.d x, .d y] k = some (.d x) :: some (.d y) :: nones k := rfl
theorem e_init3 {x y z : D} {k : Nat} : initE [.d x, .d y, .d z] k = some (.d x) :: some (.d y) :: some (.d z) :: nones k := rfl
theorem e_no0 : nones 0 = [] := rfl
theorem e_no1 : nones 1 = [none] := rfl
theorem e_no2 : nones 2 = [none, none] := rfl
theorem e_no3 : nones 3 = [none, none, none] := rfl
theorem e_no5 : nones 5 = [none, none, none, none, none] := rfl
theorem e_no6 : nones 6 = [none, none, none, none, none, none] := rfl
theorem e_is1 {a : R} : lenIs [a] 1 = true := rfl
theorem e_is2 {a b : R} : lenIs [a, b] 2 = true := rfl
theorem e_is3 {a b c : R} : lenIs [a, b, c] 3 = true := rfl
theorem e_as0 : asDs [] = some [] := rfl
theorem e_as1 {x : D} : asDs [.d x] = some [x] := rfl
theorem e_as2 {x y : D} : asDs [.d x, .d y] = some [x, y] := rfl
theorem e_sm0 : small [] = true := rfl
theorem e_sm1 {x : D} : small [x] = true := rfl
theorem e_sm2 {x y : D} : small [x, y] = true := rfl
theorem e_lenI {x : R} {ds : List D} (h : items x = some ds) : mLen [x] = some (.d (.int (Int.ofNat ds.length))) := by
  unfold mLen
  simp only [h, lenD_eq]
  rfl
theorem e_len {ds : List D} : mLen [.d (.tup ds)] = some (.d (.int (Int.ofNat ds.length))) := by
  show some (R.d (.int ((lenD ds : Nat) : Int))) = _
  rw [lenD_eq]
  rfl
theorem e_add {i j : Int} : fAdd (.d (.int i)) (.d (.int j)) = some (.d (.int (i + j))) := rfl
theorem e_sub {i j : Int} : fSub (.d (.int i)) (.d (.int j)) = some (.d (.int (i - j))) := rfl
theorem e_lt {i j : Int} : fLt (.d (.int i)) (.d (.int j)) = some (.d (.bl (decide (i < j)))) := rfl
theorem e_gt {i j : Int} : fGt (.d (.int i)) (.d (.int j)) = some (.d (.bl (decide (j < i)))) := rfl
theorem e_ge {i j : Int} : fGe (.d (.int i)) (.d (.int j)) = some (.d (.bl (decide (j ≤ i)))) := rfl
theorem e_gcd {i j : Int} : mGcd [.d (.int i), .d (.int j)] = some (.d (.int (Int.ofNat (Nat.gcd i.natAbs j.natAbs)))) := rfl
end FT
end
end -- GH0
section -- GH1
set_option Elab.async false
set_option linter.all false
set_option maxRecDepth 100000
/-! ratios -/
noncomputable section
namespace FT
open PySem PySem.Spec PyProof.Rows L2 FL
abbrev encQ (n d : Int) : D := .tup [.int n, .int d]
def h_ratio : Ev → Option Out := (hSeq (hSet 2 (gCall mGcd (FL.gCons (gV 0) (FL.gCons (gV 1) gNil))))
  (hSeq (hIf (gT (g2 fLt (gV 1) (gC (.int 0)))) (hSet 2 (g1 fNeg (gV 2))) hNil)
  (hRet (gTup (FL.gCons (g2 fDiv (gV 0) (gV 2)) (FL.gCons (g2 fDiv (gV 1) (gV 2)) gNil))))))
def m_ratio : List R → Option R := runF 2 1 h_ratio
def T_ratio (t b : Int) : Option (Int × Int) := forceI (Int.ofNat (Nat.gcd t.natAbs b.natAbs)) fun g =>
  if ltZ b then (if okD (-g) then forceI (t.fdiv (-g)) fun x => forceI (b.fdiv (-g)) fun y => some (x, y) else none)
  else (if okD g then forceI (t.fdiv g) fun x => forceI (b.fdiv g) fun y => some (x, y) else none)
def outQ : Option (Int × Int) → Option R
  | some (x, y) => some (.d (encQ x y))
  | none => none
def M_ratio : List R → Option R
  | [.d (.int t), .d (.int b)] => outQ (T_ratio t b)
  | _ => none
theorem outQ_inv {o : Option (Int × Int)} {z : R} (h : outQ o = some z) : ∃ x y, o = some (x, y) ∧ z = .d (encQ x y) := by
  unfold outQ at h
  split at h
  · cases h
    exact ⟨_, _, rfl, rfl⟩
  · cases h
theorem le_ratio (rs : List R) (z : R) (h : M_ratio rs = some z) : m_ratio rs = some z := by
  unfold M_ratio at h
  split at h
  · rename_i t b
    obtain ⟨x, y, hT, rfl⟩ := outQ_inv h
    unfold T_ratio at hT
    simp only [forceI_eq, ltZ_eq] at hT
    by_cases hb : b < 0
    · rw [if_pos (decide_eq_true hb)] at hT
      split at hT
      · rename_i hc
        cases hT
        simp only [m_ratio, h_ratio, FL.runF, FL.hSeq, FL.hSet, FL.hIf, FL.hRet, FL.hNil, FL.hExpr, FL.gT, FL.g1, FL.g2, FL.gV, FL.gC, FL.gCall, FL.gCons, FL.gNil, FL.stv, FL.gTup, FL.gLst, FL.fMod, FL.fNeg, FL.gAnd, FL.gOr, FL.gNot, FL.hPar2, FL.asg, FT.e_ix0, FT.e_ix1, FT.e_add, FT.e_sub, FT.e_lt, FT.e_gt, FT.e_ge, FT.e_gcd, FT.e_at0, FT.e_at1, FT.e_at2, FT.e_at3, FT.e_put0, FT.e_put1, FT.e_put2, FT.e_put3, FT.e_put4, FT.e_init1, FT.e_init2, FT.e_init3, FT.e_no0, FT.e_no1, FT.e_no2, FT.e_no3, FT.e_no5, FT.e_no6, FT.e_is1, FT.e_is2, FT.e_is3, FT.e_as0, FT.e_as1, FT.e_as2, FT.e_sm0, FT.e_sm1, FT.e_sm2, FT.e_len, if_true, hb, decide_true, e_div hc]
      · cases hT
    · rw [if_neg (by simp [hb])] at hT
      split at hT
      · rename_i hc
        cases hT
        simp only [m_ratio, h_ratio, FL.runF, FL.hSeq, FL.hSet, FL.hIf, FL.hRet, FL.hNil, FL.hExpr, FL.gT, FL.g1, FL.g2, FL.gV, FL.gC, FL.gCall, FL.gCons, FL.gNil, FL.stv, FL.gTup, FL.gLst, FL.fMod, FL.fNeg, FL.gAnd, FL.gOr, FL.gNot, FL.hPar2, FL.asg, FT.e_ix0, FT.e_ix1, FT.e_add, FT.e_sub, FT.e_lt, FT.e_gt, FT.e_ge, FT.e_gcd, FT.e_at0, FT.e_at1, FT.e_at2, FT.e_at3, FT.e_put0, FT.e_put1, FT.e_put2, FT.e_put3, FT.e_put4, FT.e_init1, FT.e_init2, FT.e_init3, FT.e_no0, FT.e_no1, FT.e_no2, FT.e_no3, FT.e_no5, FT.e_no6, FT.e_is1, FT.e_is2, FT.e_is3, FT.e_as0, FT.e_as1, FT.e_as2, FT.e_sm0, FT.e_sm1, FT.e_sm2, FT.e_len, if_true, hb, decide_false, e_div hc]
      · cases hT
  · cases h
def h_plus : Ev → Option Out := (hRet (gCall M_ratio (FL.gCons (g2 fAdd (g2 fMul (g2 fIx (gV 0) (gC (.int 0))) (g2 fIx (gV 1) (gC (.int 1)))) (g2 fMul (g2 fIx (gV 1) (gC (.int 0))) (g2 fIx (gV 0) (gC (.int 1))))) (FL.gCons (g2 fMul (g2 fIx (gV 0) (gC (.int 1))) (g2 fIx (gV 1) (gC (.int 1)))) gNil))))
def m_plus : List R → Option R := runF 2 0 h_plus
def T_plus (a b c d : Int) : Option (Int × Int) := if okM a d && okM c b && okM b d then forceI (a * d + c * b) fun t => forceI (b * d) fun u => T_ratio t u else none
def M_plus : List R → Option R
  | [.d (.tup [.int a, .int b]), .d (.tup [.int c, .int d])] => outQ (T_plus a b c d)
  | _ => none
theorem le_plus (rs : List R) (z : R) (h : M_plus rs = some z) : m_plus rs = some z := by
  unfold M_plus at h
  split at h
  · rename_i a b c d
    obtain ⟨x, y, hT, rfl⟩ := outQ_inv h
    unfold T_plus at hT
    split at hT
    · rename_i hc
      simp only [Bool.and_eq_true, okM_eq] at hc
      obtain ⟨⟨h1, h2⟩, h3⟩ := hc
      rw [forceI_eq, forceI_eq] at hT
      simp only [m_plus, h_plus, FL.runF, FL.hSeq, FL.hSet, FL.hIf, FL.hRet, FL.hNil, FL.hExpr, FL.gT, FL.g1, FL.g2, FL.gV, FL.gC, FL.gCall, FL.gCons, FL.gNil, FL.stv, FL.gTup, FL.gLst, FL.fMod, FL.fNeg, FL.gAnd, FL.gOr, FL.gNot, FL.hPar2, FL.asg, FT.e_ix0, FT.e_ix1, FT.e_add, FT.e_sub, FT.e_lt, FT.e_gt, FT.e_ge, FT.e_gcd, FT.e_at0, FT.e_at1, FT.e_at2, FT.e_at3, FT.e_put0, FT.e_put1, FT.e_put2, FT.e_put3, FT.e_put4, FT.e_init1, FT.e_init2, FT.e_init3, FT.e_no0, FT.e_no1, FT.e_no2, FT.e_no3, FT.e_no5, FT.e_no6, FT.e_is1, FT.e_is2, FT.e_is3, FT.e_as0, FT.e_as1, FT.e_as2, FT.e_sm0, FT.e_sm1, FT.e_sm2, FT.e_len, if_true, e_mul h1, e_mul h2, e_mul h3, M_ratio, hT, outQ]
    · cases hT
  · cases h
def h_minus : Ev → Option Out := (hRet (gCall M_ratio (FL.gCons (g2 fSub (g2 fMul (g2 fIx (gV 0) (gC (.int 0))) (g2 fIx (gV 1) (gC (.int 1)))) (g2 fMul (g2 fIx (gV 1) (gC (.int 0))) (g2 fIx (gV 0) (gC (.int 1))))) (FL.gCons (g2 fMul (g2 fIx (gV 0) (gC (.int 1))) (g2 fIx (gV 1) (gC (.int 1)))) gNil))))
def m_minus : List R → Option R := runF 2 0 h_minus
def T_minus (a b c d : Int) : Option (Int × Int) := if okM a d && okM c b && okM b d then forceI (a * d - c * b) fun t => forceI (b * d) fun u => T_ratio t u else none
def M_minus : List R → Option R
  | [.d (.tup [.int a, .int b]), .d (.tup [.int c, .int d])] => outQ (T_minus a b c d)
  | _ => none
theorem le_minus (rs : List R) (z : R) (h : M_minus rs = some z) : m_minus rs = some z := by
  unfold M_minus at h
  split at h
  · rename_i a b c d
    obtain ⟨x, y, hT, rfl⟩ := outQ_inv h
    unfold T_minus at hT
    split at hT
    · rename_i hc
      simp only [Bool.and_eq_true, okM_eq] at hc
      obtain ⟨⟨h1, h2⟩, h3⟩ := hc
      rw [forceI_eq, forceI_eq] at hT
      simp only [m_minus, h_minus, FL.runF, FL.hSeq, FL.hSet, FL.hIf, FL.hRet, FL.hNil, FL.hExpr, FL.gT, FL.g1, FL.g2, FL.gV, FL.gC, FL.gCall, FL.gCons, FL.gNil, FL.stv, FL.gTup, FL.gLst, FL.fMod, FL.fNeg, FL.gAnd, FL.gOr, FL.gNot, FL.hPar2, FL.asg, FT.e_ix0, FT.e_ix1, FT.e_add, FT.e_sub, FT.e_lt, FT.e_gt, FT.e_ge, FT.e_gcd, FT.e_at0, FT.e_at1, FT.e_at2, FT.e_at3, FT.e_put0, FT.e_put1, FT.e_put2, FT.e_put3, FT.e_put4, FT.e_init1, FT.e_init2, FT.e_init3, FT.e_no0, FT.e_no1, FT.e_no2, FT.e_no3, FT.e_no5, FT.e_no6, FT.e_is1, FT.e_is2, FT.e_is3, FT.e_as0, FT.e_as1, FT.e_as2, FT.e_sm0, FT.e_sm1, FT.e_sm2, FT.e_len, if_true, e_mul h1, e_mul h2, e_mul h3, M_ratio, hT, outQ]
    · cases hT
  · cases h
def h_times : Ev → Option Out := (hRet (gCall M_ratio (FL.gCons (g2 fMul (g2 fIx (gV 0) (gC (.int 0))) (g2 fIx (gV 1) (gC (.int 0)))) (FL.gCons (g2 fMul (g2 fIx (gV 0) (gC (.int 1))) (g2 fIx (gV 1) (gC (.int 1)))) gNil))))
def m_times : List R → Option R := runF 2 0 h_times
def T_times (a b c d : Int) : Option (Int × Int) := if okM a c && okM b d then forceI (a * c) fun t => forceI (b * d) fun u => T_ratio t u else none
def M_times : List R → Option R
  | [.d (.tup [.int a, .int b]), .d (.tup [.int c, .int d])] => outQ (T_times a b c d)
  | _ => none
theorem le_times (rs : List R) (z : R) (h : M_times rs = some z) : m_times rs = some z := by
  unfold M_times at h
  split at h
  · rename_i a b c d
    obtain ⟨x, y, hT, rfl⟩ := outQ_inv h
    unfold T_times at hT
    split at hT
    · rename_i hc
      simp only [Bool.and_eq_true, okM_eq] at hc
      obtain ⟨h1, h2⟩ := hc
      rw [forceI_eq, forceI_eq] at hT
      simp only [m_times, h_times, FL.runF, FL.hSeq, FL.hSet, FL.hIf, FL.hRet, FL.hNil, FL.hExpr, FL.gT, FL.g1, FL.g2, FL.gV, FL.gC, FL.gCall, FL.gCons, FL.gNil, FL.stv, FL.gTup, FL.gLst, FL.fMod, FL.fNeg, FL.gAnd, FL.gOr, FL.gNot, FL.hPar2, FL.asg, FT.e_ix0, FT.e_ix1, FT.e_add, FT.e_sub, FT.e_lt, FT.e_gt, FT.e_ge, FT.e_gcd, FT.e_at0, FT.e_at1, FT.e_at2, FT.e_at3, FT.e_put0, FT.e_put1, FT.e_put2, FT.e_put3, FT.e_put4, FT.e_init1, FT.e_init2, FT.e_init3, FT.e_no0, FT.e_no1, FT.e_no2, FT.e_no3, FT.e_no5, FT.e_no6, FT.e_is1, FT.e_is2, FT.e_is3, FT.e_as0, FT.e_as1, FT.e_as2, FT.e_sm0, FT.e_sm1, FT.e_sm2, FT.e_len, if_true, e_mul h1, e_mul h2, M_ratio, hT, outQ]
    · cases hT
  · cases h
def h_over : Ev → Option Out := (hRet (gCall M_ratio (FL.gCons (g2 fMul (g2 fIx (gV 0) (gC (.int 0))) (g2 fIx (gV 1) (gC (.int 1)))) (FL.gCons (g2 fMul (g2 fIx (gV 0) (gC (.int 1))) (g2 fIx (gV 1) (gC (.int 0)))) gNil))))
def m_over : List R → Option R := runF 2 0 h_over
def T_over (a b c d : Int) : Option (Int × Int) := if okM a d && okM b c then forceI (a * d) fun t => forceI (b * c) fun u => T_ratio t u else none
def M_over : List R → Option R
  | [.d (.tup [.int a, .int b]), .d (.tup [.int c, .int d])] => outQ (T_over a b c d)
  | _ => none
theorem le_over (rs : List R) (z : R) (h : M_over rs = some z) : m_over rs = some z := by
  unfold M_over at h
  split at h
  · rename_i a b c d
    obtain ⟨x, y, hT, rfl⟩ := outQ_inv h
    unfold T_over at hT
    split at hT
    · rename_i hc
      simp only [Bool.and_eq_true, okM_eq] at hc
      obtain ⟨h1, h2⟩ := hc
      rw [forceI_eq, forceI_eq] at hT
      simp only [m_over, h_over, FL.runF, FL.hSeq, FL.hSet, FL.hIf, FL.hRet, FL.hNil, FL.hExpr, FL.gT, FL.g1, FL.g2, FL.gV, FL.gC, FL.gCall, FL.gCons, FL.gNil, FL.stv, FL.gTup, FL.gLst, FL.fMod, FL.fNeg, FL.gAnd, FL.gOr, FL.gNot, FL.hPar2, FL.asg, FT.e_ix0, FT.e_ix1, FT.e_add, FT.e_sub, FT.e_lt, FT.e_gt, FT.e_ge, FT.e_gcd, FT.e_at0, FT.e_at1, FT.e_at2, FT.e_at3, FT.e_put0, FT.e_put1, FT.e_put2, FT.e_put3, FT.e_put4, FT.e_init1, FT.e_init2, FT.e_init3, FT.e_no0, FT.e_no1, FT.e_no2, FT.e_no3, FT.e_no5, FT.e_no6, FT.e_is1, FT.e_is2, FT.e_is3, FT.e_as0, FT.e_as1, FT.e_as2, FT.e_sm0, FT.e_sm1, FT.e_sm2, FT.e_len, if_true, e_mul h1, e_mul h2, M_ratio, hT, outQ]
    · cases hT
  · cases h
end FT
end
end -- GH1
section -- GH2
set_option Elab.async false
set_option linter.all false
set_option maxRecDepth 100000
/-! polynomials -/
noncomputable section
namespace FT
open PySem PySem.Spec PyProof.Rows L2 FL
/-- a list or a tuple of ints -/
def polyOf (x : R) : Option (List Int) := match items x with
  | some ds => intsOf ds
  | none => none
theorem polyOf_ok {x : R} {p : List Int} (h : polyOf x = some p) : x = .d (.tup (p.map D.int)) ∨ ∃ o, x = .l o (p.map D.int) := by
  unfold polyOf items at h
  split at h
  · rename_i ds hds
    split at hds
    · cases hds
      rw [intsOf_ok h]
      exact .inl rfl
    · cases hds
      rw [intsOf_ok h]
      exact .inr ⟨_, rfl⟩
    · cases hds
  · cases h
theorem polyOf_tup (p : List Int) : polyOf (.d (.tup (p.map D.int))) = some p := intsOf_map p
theorem polyOf_lst (o : Bool) (p : List Int) : polyOf (.l o (p.map D.int)) = some p := intsOf_map p
def outP (p : List Int) : Option R := forceD p fun ds => some (.d (.tup ds))
theorem outP_eq (p : List Int) : outP p = some (.d (.tup (p.map D.int))) := forceD_eq p _
theorem compF_gen {α : Type} {tg : Tg} {c : Ev → Option Bool} {g : Ev → Option R} {ρ : Ev} (e F : α → D) : ∀ l : List α, (∀ a ∈ l, ∃ ρ1, asg tg (e a) ρ = some ρ1 ∧ c ρ1 = some true ∧ g ρ1 = some (.d (F a))) → compF tg c g ρ (l.map e) = some (l.map F)
  | [], _ => rfl
  | a :: l, h => by
    obtain ⟨ρ1, h1, h2, h3⟩ := h a (by simp)
    have ih := compF_gen e F l fun b hb => h b (by simp [hb])
    simp only [List.map_cons, compF_cons, h1, h2, h3, ih]
theorem small_map {α : Type} {l : List α} {e : α → D} (h : l.length ≤ 1000) : small (l.map e) = true := by
  rw [small_eq, List.length_map]
  exact Nat.ble_eq_true_of_le h

def h_trimmed : Ev → Option Out := (hSeq (hSet 1 (gCall mLen (FL.gCons (gV 0) gNil)))
  (hSeq (hWhile 20 (gAnd (gT (g2 fGt (gV 1) (gC (.int 0)))) (gT (g2 fEq (g2 fIx (gV 0) (g2 fSub (gV 1) (gC (.int 1)))) (gC (.int 0))))) (hAug 1 (fI fun i j => D.int (i - j)) (gC (.int 1))))
  (hRet (gCall mTuple (FL.gCons (gSl fSl (gV 0) gPart0 (gPart (gV 1))) gNil)))))
def m_trimmed : List R → Option R := runF 1 1 h_trimmed
def T_trim (p : List Int) : Option (List Int) := if Nat.ble (len p) 18 then some (trimR p) else none
def M_trimmed : List R → Option R
  | [x] => match polyOf x with
    | some p => match T_trim p with
      | some r => outP r
      | none => none
    | none => none
  | _ => none
theorem fEq_int (i j : Int) : fEq (.d (.int i)) (.d (.int j)) = some (.d (.bl (i == j))) := by
  rw [← eqZ_eq]
  rfl
theorem trim_loop {x : R} {p : List Int} (hg : ∀ r, gV 0 [some x, r] = some x) (hx : items x = some (p.map D.int)) : ∀ (n f : Nat), n ≤ p.length → n < f →
    whileF (gAnd (gT (g2 fGt (gV 1) (gC (.int 0)))) (gT (g2 fEq (g2 fIx (gV 0) (g2 fSub (gV 1) (gC (.int 1)))) (gC (.int 0))))) (hAug 1 (fI fun i j => D.int (i - j)) (gC (.int 1))) f [some x, some (.d (.int (Int.ofNat n)))] = some (.nx [some x, some (.d (.int (Int.ofNat (trimLen p n))))])
  | 0, 0, _, h => absurd h (Nat.lt_irrefl 0)
  | 0, f + 1, _, _ => by
    have e : decide ((0 : Int) < Int.ofNat 0) = false := by decide
    rw [whileF_succ]
    simp only [FL.runF, FL.hSeq, FL.hSet, FL.hIf, FL.hRet, FL.hNil, FL.hExpr, FL.gT, FL.g1, FL.g2, FL.gV, FL.gC, FL.gCall, FL.gCons, FL.gNil, FL.stv, FL.gTup, FL.gLst, FL.fMod, FL.fNeg, FL.gAnd, FL.gOr, FL.gNot, FL.hPar2, FL.asg, FT.e_ix0, FT.e_ix1, FT.e_add, FT.e_sub, FT.e_lt, FT.e_gt, FT.e_ge, FT.e_gcd, FT.e_at0, FT.e_at1, FT.e_at2, FT.e_at3, FT.e_put0, FT.e_put1, FT.e_put2, FT.e_put3, FT.e_put4, FT.e_init1, FT.e_init2, FT.e_init3, FT.e_no0, FT.e_no1, FT.e_no2, FT.e_no3, FT.e_no5, FT.e_no6, FT.e_is1, FT.e_is2, FT.e_is3, FT.e_as0, FT.e_as1, FT.e_as2, FT.e_sm0, FT.e_sm1, FT.e_sm2, FT.e_len, if_true, e]
    rfl
  | n + 1, 0, _, h => absurd h (Nat.not_lt_zero _)
  | n + 1, f + 1, hn, hf => by
    have e : decide ((0 : Int) < Int.ofNat (n + 1)) = true := decide_eq_true (by show (0 : Int) < ((n + 1 : Nat) : Int); omega)
    have e1 : Int.ofNat (n + 1) - 1 = Int.ofNat n := by show ((n + 1 : Nat) : Int) - 1 = (n : Int); omega
    have e2 : fIx x (.d (.int (Int.ofNat n))) = some (.d (.int p[n])) := by
      unfold fIx
      rw [hx]
      show (match ixD (p.map D.int) (Int.ofNat n) with
        | some d => some (R.d d)
        | none => none) = _
      rw [ix_at rfl n hn]
    have hc : gAnd (gT (g2 fGt (gV 1) (gC (.int 0)))) (gT (g2 fEq (g2 fIx (gV 0) (g2 fSub (gV 1) (gC (.int 1)))) (gC (.int 0)))) [some x, some (.d (.int (Int.ofNat (n + 1))))] = some (p[n] == 0) := by
      simp only [gAnd, gT, g2, hg]
      simp only [FL.runF, FL.hSeq, FL.hSet, FL.hIf, FL.hRet, FL.hNil, FL.hExpr, FL.gT, FL.g1, FL.g2, FL.gV, FL.gC, FL.gCall, FL.gCons, FL.gNil, FL.stv, FL.gTup, FL.gLst, FL.fMod, FL.fNeg, FL.gAnd, FL.gOr, FL.gNot, FL.hPar2, FL.asg, FT.e_ix0, FT.e_ix1, FT.e_add, FT.e_sub, FT.e_lt, FT.e_gt, FT.e_ge, FT.e_gcd, FT.e_at0, FT.e_at1, FT.e_at2, FT.e_at3, FT.e_put0, FT.e_put1, FT.e_put2, FT.e_put3, FT.e_put4, FT.e_init1, FT.e_init2, FT.e_init3, FT.e_no0, FT.e_no1, FT.e_no2, FT.e_no3, FT.e_no5, FT.e_no6, FT.e_is1, FT.e_is2, FT.e_is3, FT.e_as0, FT.e_as1, FT.e_as2, FT.e_sm0, FT.e_sm1, FT.e_sm2, FT.e_len, if_true, e, e1, e2, fEq_int]
    have hpn : p[n]? = some p[n] := List.getElem?_eq_getElem hn
    rw [whileF_succ]
    simp only [hc]
    by_cases hz : p[n] = 0
    · have hb : (p[n] == 0) = true := by rw [hz]; rfl
      have ht : trimLen p (n + 1) = trimLen p n := by
        show (if p[n]? = some 0 then trimLen p n else n + 1) = _
        rw [if_pos (by rw [hpn, hz])]
      simp only [hb, ht]
      have ih := trim_loop hg hx n f (by omega) (by omega)
      rw [← ih, ← e1]
      rfl
    · have hb : (p[n] == 0) = false := by simpa using hz
      have ht : trimLen p (n + 1) = n + 1 := by
        show (if p[n]? = some 0 then trimLen p n else n + 1) = _
        rw [if_neg (by rw [hpn]; exact fun q => hz (Option.some.inj q))]
      simp only [hb, ht]
theorem cut_take {α : Type} (l : List α) (n : Nat) (h : n ≤ l.length) : cutG l none (some (Int.ofNat n)) = l.take n := by
  unfold cutG
  have e : HT.sIx l.length l.length (some (Int.ofNat n)) = n := by
    show HT.sIx l.length l.length (some ((n : Nat) : Int)) = n
    rw [HT.sIx_nat]
    omega
  rw [e]
  show (l.drop 0).take (n - 0) = _
  simp
theorem trim_any {x : R} {p : List Int} (hi : initE [x] 1 = [some x, none]) (hg : ∀ r, gV 0 [some x, r] = some x) (hx : items x = some (p.map D.int)) (hc : mTuple [R.d (.tup (p.map D.int))] = some (.d (.tup (p.map D.int))))
    (hs : ∀ n : Nat, ∃ y, fSl x none (some (Int.ofNat n)) = some y ∧ mTuple [y] = some (.d (.tup (cutG (p.map D.int) none (some (Int.ofNat n)))))) (hl : p.length ≤ 18) : m_trimmed [x] = some (.d (.tup ((trimR p).map D.int))) := by
  have e0 : gCall mLen (FL.gCons (gV 0) FL.gNil) [some x, none] = some (.d (.int (Int.ofNat p.length))) := by
    simp only [gCall, FL.gCons, FL.gNil, hg, e_lenI hx, List.length_map]
  have e1 := trim_loop hg hx p.length 20 (Nat.le_refl _) (by omega)
  obtain ⟨y, hy, ht⟩ := hs (trimLen p p.length)
  have e2 : cutG (p.map D.int) none (some (Int.ofNat (trimLen p p.length))) = (trimR p).map D.int := by
    rw [cut_take _ _ (by rw [List.length_map]; exact trimLen_le p p.length), trimR_eq, List.map_take]
  rw [e2] at ht
  simp only [m_trimmed, runF, hi, h_trimmed, hSeq, hSet, e0, stv, FT.e_put0, FT.e_put1, FT.e_put2, FT.e_put3, FT.e_put4, hWhile, e1]
  simp only [hRet, gCall, FL.gCons, FL.gNil, gSl, hg, gPart0, gPart]
  simp only [FL.runF, FL.hSeq, FL.hSet, FL.hIf, FL.hRet, FL.hNil, FL.hExpr, FL.gT, FL.g1, FL.g2, FL.gV, FL.gC, FL.gCall, FL.gCons, FL.gNil, FL.stv, FL.gTup, FL.gLst, FL.fMod, FL.fNeg, FL.gAnd, FL.gOr, FL.gNot, FL.hPar2, FL.asg, FT.e_ix0, FT.e_ix1, FT.e_add, FT.e_sub, FT.e_lt, FT.e_gt, FT.e_ge, FT.e_gcd, FT.e_at0, FT.e_at1, FT.e_at2, FT.e_at3, FT.e_put0, FT.e_put1, FT.e_put2, FT.e_put3, FT.e_put4, FT.e_init1, FT.e_init2, FT.e_init3, FT.e_no0, FT.e_no1, FT.e_no2, FT.e_no3, FT.e_no5, FT.e_no6, FT.e_is1, FT.e_is2, FT.e_is3, FT.e_as0, FT.e_as1, FT.e_as2, FT.e_sm0, FT.e_sm1, FT.e_sm2, FT.e_len, if_true, hy, ht]
theorem le_trimmed (rs : List R) (z : R) (h : M_trimmed rs = some z) : m_trimmed rs = some z := by
  unfold M_trimmed at h
  split at h
  · rename_i x
    split at h
    · rename_i p hp
      split at h
      · rename_i r hr
        unfold T_trim at hr
        split at hr
        · rename_i hl
          cases hr
          rw [len_eq] at hl
          have hl' := Nat.le_of_ble_eq_true hl
          rw [outP_eq] at h
          rw [← h]
          rcases polyOf_ok hp with rfl | ⟨o, rfl⟩
          · exact trim_any rfl (fun _ => rfl) rfl rfl (fun n => ⟨_, rfl, rfl⟩) hl'
          · have := trim_any (x := .l false (p.map D.int)) rfl (fun _ => rfl) rfl rfl (fun n => ⟨_, rfl, rfl⟩) hl'
            exact this
        · cases hr
      · cases h
    · cases h
  · cases h
end FT
end
end -- GH2
section -- GH3
set_option Elab.async false
set_option linter.all false
set_option maxRecDepth 100000
/-! polynomials: sums, multiples, contents -/
noncomputable section
namespace FT
open PySem PySem.Spec PyProof.Rows L2 FL
def h_scaled : Ev → Option Out := (hRet (gCall M_trimmed (FL.gCons (gComp (gItT (gV 0)) (.one 2) cYes (g2 fMul (gV 1) (gV 2)) [2]) gNil)))
def m_scaled : List R → Option R := runF 2 1 h_scaled
def mapK (k : Int) (p : List Int) : List Int := List.rec (motive := fun _ => List Int) [] (fun a _ ih => (k * a) :: ih) p
theorem mapK_eq (k : Int) : ∀ p : List Int, mapK k p = p.map (k * ·)
  | [] => rfl
  | a :: p => by
    show (k * a) :: mapK k p = _
    rw [mapK_eq k p]
    rfl
def allM (k : Int) (p : List Int) : Bool := List.rec (motive := fun _ => Bool) true (fun a _ ih => okM k a && ih) p
theorem allM_ok {k : Int} : ∀ {p : List Int}, allM k p = true → ∀ a ∈ p, okMul k a = true
  | [], _, a, ha => by cases ha
  | b :: p, h, a, ha => by
    have h' : (okM k b && allM k p) = true := h
    rw [Bool.and_eq_true] at h'
    rcases List.mem_cons.mp ha with rfl | ha
    · exact h'.1
    · exact allM_ok h'.2 a ha
def T_scaled (p : List Int) (k : Int) : Option (List Int) := if Nat.ble (len p) 18 && allM k p then forceL (trimR (mapK k p)) some else none
def outPo : Option (List Int) → Option R
  | some p => outP p
  | none => none
theorem outPo_inv {o : Option (List Int)} {z : R} (h : outPo o = some z) : ∃ p, o = some p ∧ z = .d (.tup (p.map D.int)) := by
  unfold outPo at h
  split at h
  · rw [outP_eq] at h
    cases h
    exact ⟨_, rfl, rfl⟩
  · cases h
def M_scaled : List R → Option R
  | [.d (.tup ds), .d (.int k)] => match intsOf ds with
    | some p => outPo (T_scaled p k)
    | none => none
  | _ => none
theorem trim_lst (o : Bool) {p r : List Int} (h : T_trim p = some r) : M_trimmed [.l o (p.map D.int)] = some (.d (.tup (r.map D.int))) := by
  show (match polyOf (.l o (p.map D.int)) with
    | some p => match T_trim p with
      | some r => outP r
      | none => none
    | none => none) = _
  rw [polyOf_lst]
  show (match T_trim p with
      | some r => outP r
      | none => none) = _
  rw [h]
  exact outP_eq r
theorem trim_ok {p : List Int} (h : p.length ≤ 18) : T_trim p = some (trimR p) := by
  unfold T_trim
  rw [len_eq, if_pos (Nat.ble_eq_true_of_le h)]
theorem le_scaled (rs : List R) (z : R) (h : M_scaled rs = some z) : m_scaled rs = some z := by
  unfold M_scaled at h
  split at h
  · rename_i ds k
    split at h
    · rename_i p hp
      obtain ⟨r, hT, rfl⟩ := outPo_inv h
      unfold T_scaled at hT
      split at hT
      · rename_i hc
        rw [forceL_eq] at hT
        cases hT
        rw [Bool.and_eq_true, len_eq] at hc
        have hl := Nat.le_of_ble_eq_true hc.1
        have hm := allM_ok hc.2
        rw [intsOf_ok hp]
        have e1 : compF (.one 2) cYes (g2 fMul (gV 1) (gV 2)) (wipeE [some (.d (.tup (p.map D.int))), some (.d (.int k)), none] [2]) (p.map D.int) = some (p.map fun a => .int (k * a)) := by
          refine compF_gen D.int (fun a => .int (k * a)) p fun a ha => ⟨[some (.d (.tup (p.map D.int))), some (.d (.int k)), some (.d (.int a))], rfl, rfl, ?_⟩
          simp only [FL.runF, FL.hSeq, FL.hSet, FL.hIf, FL.hRet, FL.hNil, FL.hExpr, FL.gT, FL.g1, FL.g2, FL.gV, FL.gC, FL.gCall, FL.gCons, FL.gNil, FL.stv, FL.gTup, FL.gLst, FL.fMod, FL.fNeg, FL.gAnd, FL.gOr, FL.gNot, FL.hPar2, FL.asg, FT.e_ix0, FT.e_ix1, FT.e_add, FT.e_sub, FT.e_lt, FT.e_gt, FT.e_ge, FT.e_gcd, FT.e_at0, FT.e_at1, FT.e_at2, FT.e_at3, FT.e_put0, FT.e_put1, FT.e_put2, FT.e_put3, FT.e_put4, FT.e_init1, FT.e_init2, FT.e_init3, FT.e_no0, FT.e_no1, FT.e_no2, FT.e_no3, FT.e_no5, FT.e_no6, FT.e_is1, FT.e_is2, FT.e_is3, FT.e_as0, FT.e_as1, FT.e_as2, FT.e_sm0, FT.e_sm1, FT.e_sm2, FT.e_len, if_true, e_mul (hm a ha)]
        have e2 : small (p.map D.int) = true := small_map (by omega)
        have e3 : gComp (gItT (gV 0)) (.one 2) cYes (g2 fMul (gV 1) (gV 2)) [2] [some (.d (.tup (p.map D.int))), some (.d (.int k)), none] = some (.l true ((mapK k p).map D.int)) := by
          show (if small (p.map D.int) then (match compF (.one 2) cYes (g2 fMul (gV 1) (gV 2)) (wipeE [some (.d (.tup (p.map D.int))), some (.d (.int k)), none] [2]) (p.map D.int) with
            | some ys => some (R.l true ys)
            | none => none) else none) = _
          rw [if_pos e2, e1, mapK_eq, List.map_map]
          rfl
        have e4 := trim_lst true (trim_ok (p := mapK k p) (by rw [mapK_eq, List.length_map]; exact hl))
        simp only [m_scaled, h_scaled, FL.runF, FT.e_init1, FT.e_init2, FT.e_init3, FT.e_no0, FT.e_no1, FT.e_no2, FT.e_no3, FT.e_no5, FT.e_no6, FT.e_is1, FT.e_is2, FT.e_is3, FL.hRet, FL.gCall, FL.gCons, FL.gNil, e3, e4]
      · cases hT
    · cases h
  · cases h
theorem scaled_ok {p r : List Int} {k : Int} (h : T_scaled p k = some r) : M_scaled [.d (.tup (p.map D.int)), .d (.int k)] = some (.d (.tup (r.map D.int))) := by
  show (match intsOf (p.map D.int) with
    | some p => outPo (T_scaled p k)
    | none => none) = _
  rw [intsOf_map]
  show outPo (T_scaled p k) = _
  rw [h]
  exact outP_eq r

def h_poly_plus : Ev → Option Out := (hSeq (hSet 2 (gCall mMax (FL.gCons (gCall mLen (FL.gCons (gV 0) gNil)) (FL.gCons (gCall mLen (FL.gCons (gV 1) gNil)) gNil))))
  (hSeq (hPar2 3 4 (gLst (gStar (gV 0) (gStar (g2 fMul (gLst (FL.gCons (gC (.int 0)) gNil)) (g2 fSub (gV 2) (gCall mLen (FL.gCons (gV 0) gNil)))) gNil))) (gLst (gStar (gV 1) (gStar (g2 fMul (gLst (FL.gCons (gC (.int 0)) gNil)) (g2 fSub (gV 2) (gCall mLen (FL.gCons (gV 1) gNil)))) gNil))))
  (hRet (gCall M_trimmed (FL.gCons (gComp (gZipL (FL.gCons (gV 3) (FL.gCons (gV 4) gNil))) (.two 5 6) cYes (g2 fAdd (gV 5) (gV 6)) [5, 6]) gNil)))))
def m_poly_plus : List R → Option R := runF 2 5 h_poly_plus
def addL (p : List Int) : List Int → List Int := List.rec (motive := fun _ => List Int → List Int) (fun q => q) (fun a p' ih q => match q with
  | [] => a :: p'
  | b :: q' => (a + b) :: ih q') p
theorem zip_zero : ∀ q : List Int, List.zipWith (· + ·) (List.replicate q.length 0) q = q
  | [] => rfl
  | b :: q => by
    show ((0 : Int) + b) :: List.zipWith (· + ·) (List.replicate q.length 0) q = _
    rw [zip_zero q, Int.zero_add]
theorem zip_zero' : ∀ q : List Int, List.zipWith (· + ·) q (List.replicate q.length 0) = q
  | [] => rfl
  | b :: q => by
    show (b + (0 : Int)) :: List.zipWith (· + ·) q (List.replicate q.length 0) = _
    rw [zip_zero' q, Int.add_zero]
theorem addL_eq : ∀ (p q : List Int), List.zipWith (· + ·) (p ++ List.replicate (max p.length q.length - p.length) 0) (q ++ List.replicate (max p.length q.length - q.length) 0) = addL p q
  | [], q => by
    have e1 : max ([] : List Int).length q.length - ([] : List Int).length = q.length := by simp
    have e2 : max ([] : List Int).length q.length - q.length = 0 := by simp
    rw [e1, e2]
    show List.zipWith (· + ·) (List.replicate q.length 0) (q ++ []) = q
    rw [List.append_nil, zip_zero]
  | a :: p, [] => by
    have e1 : max (a :: p).length ([] : List Int).length - (a :: p).length = 0 := by simp
    have e2 : max (a :: p).length ([] : List Int).length - ([] : List Int).length = (a :: p).length := by simp
    rw [e1, e2]
    show List.zipWith (· + ·) ((a :: p) ++ []) (List.replicate (a :: p).length 0) = a :: p
    rw [List.append_nil, zip_zero']
  | a :: p, b :: q => by
    have e0 : max (a :: p).length (b :: q).length = max p.length q.length + 1 := by
      simp only [List.length_cons]
      omega
    have e1 : max (a :: p).length (b :: q).length - (a :: p).length = max p.length q.length - p.length := by
      rw [e0, List.length_cons]
      omega
    have e2 : max (a :: p).length (b :: q).length - (b :: q).length = max p.length q.length - q.length := by
      rw [e0, List.length_cons]
      omega
    rw [e1, e2]
    show (a + b) :: List.zipWith (· + ·) (p ++ List.replicate (max p.length q.length - p.length) 0) (q ++ List.replicate (max p.length q.length - q.length) 0) = (a + b) :: addL p q
    rw [addL_eq p q]
theorem addL_len (p q : List Int) : (addL p q).length = max p.length q.length := by
  rw [← addL_eq, List.length_zipWith, List.length_append, List.length_append, List.length_replicate, List.length_replicate]
  omega
def T_plusP (p q : List Int) : Option (List Int) := if Nat.ble (len p) 18 && Nat.ble (len q) 18 then forceL (trimR (addL p q)) some else none
def M_poly_plus : List R → Option R
  | [.d (.tup ds), .d (.tup es)] => match intsOf ds with
    | some p => match intsOf es with
      | some q => outPo (T_plusP p q)
      | none => none
    | none => none
  | _ => none
theorem repD_map (n : Nat) : repD [.int 0] n = (List.replicate n (0 : Int)).map D.int := by
  induction n with
  | zero => rfl
  | succ n ih =>
    show D.int 0 :: repD [.int 0] n = _
    rw [ih]
    rfl
theorem pad_ok (p : List Int) (m : Nat) (hp : p.length ≤ m) (hm : m ≤ 18) (ρ : Ev) (i : Nat) (hi : gV i ρ = some (.d (.tup (p.map D.int)))) (h2 : gV 2 ρ = some (.d (.int (Int.ofNat m)))) :
    gLst (gStar (gV i) (gStar (g2 fMul (gLst (FL.gCons (gC (.int 0)) FL.gNil)) (g2 fSub (gV 2) (gCall mLen (FL.gCons (gV i) FL.gNil)))) FL.gNil)) ρ = some (.l true ((p ++ List.replicate (m - p.length) 0).map D.int)) := by
  have e1 : gCall mLen (FL.gCons (gV i) FL.gNil) ρ = some (.d (.int (Int.ofNat p.length))) := by
    simp only [FL.gCall, FL.gCons, FL.gNil, hi, FT.e_len, List.length_map]
  have e2 : g2 fSub (gV 2) (gCall mLen (FL.gCons (gV i) FL.gNil)) ρ = some (.d (.int (Int.ofNat (m - p.length)))) := by
    simp only [FL.g2, h2, e1, e_sub]
    rw [show Int.ofNat m - Int.ofNat p.length = Int.ofNat (m - p.length) by show (m : Int) - (p.length : Int) = ((m - p.length : Nat) : Int); omega]
  have e3 : g2 fMul (gLst (FL.gCons (gC (.int 0)) FL.gNil)) (g2 fSub (gV 2) (gCall mLen (FL.gCons (gV i) FL.gNil))) ρ = some (.l true ((List.replicate (m - p.length) (0 : Int)).map D.int)) := by
    have z : gLst (FL.gCons (gC (.int 0)) FL.gNil) ρ = some (.l true [.int 0]) := rfl
    rw [g2_of z e2]
    show (if Nat.ble (m - p.length) 1000 && Nat.ble 1 1000 then some (R.l true (repD [.int 0] (m - p.length))) else none) = _
    rw [repD_map, if_pos]
    rw [Nat.ble_eq_true_of_le (by omega : m - p.length ≤ 1000)]
    rfl
  have e4 : gStar (g2 fMul (gLst (FL.gCons (gC (.int 0)) FL.gNil)) (g2 fSub (gV 2) (gCall mLen (FL.gCons (gV i) FL.gNil)))) FL.gNil ρ = some (((List.replicate (m - p.length) (0 : Int)).map D.int).map R.d) := by
    simp only [FL.gStar, e3, FL.items, FL.gNil, FL.appD_eq, List.append_nil]
  have e5 : gStar (gV i) (gStar (g2 fMul (gLst (FL.gCons (gC (.int 0)) FL.gNil)) (g2 fSub (gV 2) (gCall mLen (FL.gCons (gV i) FL.gNil)))) FL.gNil) ρ = some (((p ++ List.replicate (m - p.length) (0 : Int)).map D.int).map R.d) := by
    show (match gV i ρ with
      | some x => match items x with
        | some ds => match gStar (g2 fMul (gLst (FL.gCons (gC (.int 0)) FL.gNil)) (g2 fSub (gV 2) (gCall mLen (FL.gCons (gV i) FL.gNil)))) FL.gNil ρ with
          | some xs => some (appD ds xs)
          | none => none
        | none => none
      | none => none) = _
    rw [hi, e4]
    simp only [FL.items, FL.appD_eq, List.map_append]
  have e6 : ∀ ds : List D, asDs (ds.map R.d) = some ds := by
    intro ds
    induction ds with
    | nil => rfl
    | cons d ds ih => simp only [List.map_cons, FL.asDs_cons, ih]
  have e7 : small ((p ++ List.replicate (m - p.length) 0).map D.int) = true := small_map (by
    rw [List.length_append, List.length_replicate]
    omega)
  simp only [FL.gLst] at e5 ⊢
  rw [e5]
  simp only [e6, e7, if_true]
theorem zipD_map : ∀ (p q : List Int), zipD (p.map D.int) (q.map D.int) = (p.zip q).map fun ab => D.tup [.int ab.1, .int ab.2]
  | [], q => by cases q <;> rfl
  | _ :: _, [] => rfl
  | a :: p, b :: q => by
    show D.tup [.int a, .int b] :: zipD (p.map D.int) (q.map D.int) = _
    rw [zipD_map p q]
    rfl
theorem le_poly_plus (rs : List R) (z : R) (h : M_poly_plus rs = some z) : m_poly_plus rs = some z := by
  unfold M_poly_plus at h
  split at h
  · rename_i ds es
    split at h
    · rename_i p hp
      split at h
      · rename_i q hq
        obtain ⟨r, hT, rfl⟩ := outPo_inv h
        unfold T_plusP at hT
        split at hT
        · rename_i hc
          rw [forceL_eq] at hT
          cases hT
          rw [Bool.and_eq_true, len_eq, len_eq] at hc
          have h1 := Nat.le_of_ble_eq_true hc.1
          have h2 := Nat.le_of_ble_eq_true hc.2
          rw [intsOf_ok hp, intsOf_ok hq]
          have em : (if Int.ofNat q.length > Int.ofNat p.length then Int.ofNat q.length else Int.ofNat p.length) = Int.ofNat (max p.length q.length) := by
            by_cases hh : Int.ofNat q.length > Int.ofNat p.length
            · rw [if_pos hh]
              have : (q.length : Int) > p.length := hh
              rw [show max p.length q.length = q.length by omega]
            · rw [if_neg hh]
              have : ¬ (q.length : Int) > p.length := hh
              rw [show max p.length q.length = p.length by omega]
          have e1 : gCall mMax (FL.gCons (gCall mLen (FL.gCons (gV 0) FL.gNil)) (FL.gCons (gCall mLen (FL.gCons (gV 1) FL.gNil)) FL.gNil)) [some (.d (.tup (p.map D.int))), some (.d (.tup (q.map D.int))), none, none, none, none, none] = some (.d (.int (Int.ofNat (max p.length q.length)))) := by
            simp only [FL.gCall, FL.gCons, FL.gNil, FL.gV, FT.e_at0, FT.e_at1, FT.e_at2, FT.e_at3, FT.e_len, List.length_map, FL.mMax, em]
          have p1 := pad_ok p (max p.length q.length) (by omega) (by omega) [some (.d (.tup (p.map D.int))), some (.d (.tup (q.map D.int))), some (.d (.int (Int.ofNat (max p.length q.length)))), none, none, none, none] 0 rfl rfl
          have p2 := pad_ok q (max p.length q.length) (by omega) (by omega) [some (.d (.tup (p.map D.int))), some (.d (.tup (q.map D.int))), some (.d (.int (Int.ofNat (max p.length q.length)))), none, none, none, none] 1 rfl rfl
          generalize hP : p ++ List.replicate (max p.length q.length - p.length) 0 = P at p1
          generalize hQ : q ++ List.replicate (max p.length q.length - q.length) 0 = Q' at p2
          have hz : List.zipWith (· + ·) P Q' = addL p q := by
            rw [← hP, ← hQ]
            exact addL_eq p q
          have lP : P.length ≤ 18 := by
            rw [← hP, List.length_append, List.length_replicate]
            omega
          have e3 : gComp (gZipL (FL.gCons (gV 3) (FL.gCons (gV 4) FL.gNil))) (.two 5 6) cYes (g2 fAdd (gV 5) (gV 6)) [5, 6] [some (.d (.tup (p.map D.int))), some (.d (.tup (q.map D.int))), some (.d (.int (Int.ofNat (max p.length q.length)))), some (.l true (P.map D.int)), some (.l true (Q'.map D.int)), none, none] = some (.l true ((addL p q).map D.int)) := by
            have c1 : compF (.two 5 6) cYes (g2 fAdd (gV 5) (gV 6)) [some (.d (.tup (p.map D.int))), some (.d (.tup (q.map D.int))), some (.d (.int (Int.ofNat (max p.length q.length)))), some (.l true (P.map D.int)), some (.l true (Q'.map D.int)), none, none] (zipD (P.map D.int) (Q'.map D.int)) = some ((P.zip Q').map fun ab => .int (ab.1 + ab.2)) := by
              rw [zipD_map]
              exact compF_gen (fun ab : Int × Int => D.tup [.int ab.1, .int ab.2]) (fun ab => .int (ab.1 + ab.2)) (P.zip Q') fun ab _ => ⟨_, rfl, rfl, rfl⟩
            have c2 : small (zipD (P.map D.int) (Q'.map D.int)) = true := by
              rw [small_eq]
              apply Nat.ble_eq_true_of_le
              rw [zipD_len, List.length_map]
              omega
            show (if small (zipD (P.map D.int) (Q'.map D.int)) then (match compF (.two 5 6) cYes (g2 fAdd (gV 5) (gV 6)) [some (.d (.tup (p.map D.int))), some (.d (.tup (q.map D.int))), some (.d (.int (Int.ofNat (max p.length q.length)))), some (.l true (P.map D.int)), some (.l true (Q'.map D.int)), none, none] (zipD (P.map D.int) (Q'.map D.int)) with
              | some ys => some (R.l true ys)
              | none => none) else none) = _
            rw [if_pos c2, c1, ← hz, List.zip, List.map_zipWith, List.map_zipWith]
          have e4 := trim_lst true (trim_ok (p := addL p q) (by rw [addL_len]; omega))
          simp only [m_poly_plus, h_poly_plus, FL.runF, FT.e_init1, FT.e_init2, FT.e_init3, FT.e_no0, FT.e_no1, FT.e_no2, FT.e_no3, FT.e_no5, FT.e_no6, FT.e_is1, FT.e_is2, FT.e_is3, FL.hSeq, FL.hSet, e1, FL.stv, FT.e_put0, FT.e_put1, FT.e_put2, FT.e_put3, FT.e_put4, FL.hPar2, p1, p2, FL.hRet]
          simp only [FL.gCall, FL.gCons, FL.gNil]
          rw [e3]
          simp only [e4]
        · cases hT
      · cases h
    · cases h
  · cases h
theorem plusP_ok {p q r : List Int} (h : T_plusP p q = some r) : M_poly_plus [.d (.tup (p.map D.int)), .d (.tup (q.map D.int))] = some (.d (.tup (r.map D.int))) := by
  show (match intsOf (p.map D.int) with
    | some p => match intsOf (q.map D.int) with
      | some q => outPo (T_plusP p q)
      | none => none
    | none => none) = _
  rw [intsOf_map, intsOf_map]
  show outPo (T_plusP p q) = _
  rw [h]
  exact outP_eq r

def h_poly_minus : Ev → Option Out := (hRet (gCall M_poly_plus (FL.gCons (gV 0) (FL.gCons (gCall M_scaled (FL.gCons (gV 1) (FL.gCons (g1 fNeg (gC (.int 1))) gNil))) gNil))))
def m_poly_minus : List R → Option R := runF 2 0 h_poly_minus
def T_minusP (p q : List Int) : Option (List Int) := match T_scaled q (-1) with
  | some r => T_plusP p r
  | none => none
def M_poly_minus : List R → Option R
  | [.d (.tup ds), .d (.tup es)] => match intsOf ds with
    | some p => match intsOf es with
      | some q => outPo (T_minusP p q)
      | none => none
    | none => none
  | _ => none
theorem minusP_m {p q r : List Int} (h : T_minusP p q = some r) : m_poly_minus [.d (.tup (p.map D.int)), .d (.tup (q.map D.int))] = some (.d (.tup (r.map D.int))) := by
  unfold T_minusP at h
  split at h
  · rename_i s hs
    have e1 := scaled_ok hs
    have e2 := plusP_ok h
    have e3 : FL.fNeg (.d (.int 1)) = some (.d (.int (-1))) := rfl
    simp only [m_poly_minus, h_poly_minus, FL.runF, FT.e_init1, FT.e_init2, FT.e_init3, FT.e_no0, FT.e_no1, FT.e_no2, FT.e_no3, FT.e_no5, FT.e_no6, FT.e_is1, FT.e_is2, FT.e_is3, FL.hRet, FL.gCall, FL.gCons, FL.gNil, FL.gV, FT.e_at0, FT.e_at1, FT.e_at2, FT.e_at3, FL.g1, FL.gC, e3, e1, e2]
  · cases h
theorem le_poly_minus (rs : List R) (z : R) (h : M_poly_minus rs = some z) : m_poly_minus rs = some z := by
  unfold M_poly_minus at h
  split at h
  · split at h
    · rename_i p hp
      split at h
      · rename_i q hq
        obtain ⟨r, hT, rfl⟩ := outPo_inv h
        rw [intsOf_ok hp, intsOf_ok hq]
        exact minusP_m hT
      · cases h
    · cases h
  · cases h
theorem minusP_ok {p q r : List Int} (h : T_minusP p q = some r) : M_poly_minus [.d (.tup (p.map D.int)), .d (.tup (q.map D.int))] = some (.d (.tup (r.map D.int))) := by
  show (match intsOf (p.map D.int) with
    | some p => match intsOf (q.map D.int) with
      | some q => outPo (T_minusP p q)
      | none => none
    | none => none) = _
  rw [intsOf_map, intsOf_map]
  show outPo (T_minusP p q) = _
  rw [h]
  exact outP_eq r
end FT
end
end -- GH3
section -- GH4
set_option Elab.async false
set_option linter.all false
set_option maxRecDepth 100000
/-! contents, derivatives, values -/
noncomputable section
namespace FT
open PySem PySem.Spec PyProof.Rows L2 FL
def h_content : Ev → Option Out := (hSeq (hSet 1 (gC (.int 0)))
  (hSeq (hFor (.one 2) (gItT (gV 0)) (hSet 1 (gCall mGcd (FL.gCons (gV 1) (FL.gCons (gV 2) gNil)))))
  (hRet (gV 1))))
def m_content : List R → Option R := runF 1 2 h_content
def gcdL (p : List Int) : Nat → Nat := List.rec (motive := fun _ => Nat → Nat) (fun g => g) (fun a _ ih g => forceN (Nat.gcd g a.natAbs) ih) p
theorem gcdL_cons (a : Int) (p : List Int) (g : Nat) : gcdL (a :: p) g = gcdL p (Nat.gcd g a.natAbs) := by
  show forceN (Nat.gcd g a.natAbs) (gcdL p) = _
  rw [forceN_eq]
def M_content : List R → Option R
  | [.d (.tup ds)] => match intsOf ds with
    | some p => forceN (gcdL p 0) fun g => some (.d (.int (Int.ofNat g)))
    | none => none
  | _ => none
theorem content_loop (X : Option R) : ∀ (p : List Int) (g : Nat) (w : Option R), ∃ w', forF (.one 2) (hSet 1 (gCall mGcd (FL.gCons (gV 1) (FL.gCons (gV 2) FL.gNil)))) (p.map D.int) [X, some (.d (.int (Int.ofNat g))), w] = some (.nx [X, some (.d (.int (Int.ofNat (gcdL p g)))), w'])
  | [], g, w => ⟨w, rfl⟩
  | a :: p, g, w => by
    obtain ⟨w', ih⟩ := content_loop X p (Nat.gcd g a.natAbs) (some (.d (.int a)))
    refine ⟨w', ?_⟩
    rw [gcdL_cons, ← ih]
    rfl
theorem content_m (p : List Int) : m_content [.d (.tup (p.map D.int))] = some (.d (.int (Int.ofNat (gcdL p 0)))) := by
  obtain ⟨w', h⟩ := content_loop (some (.d (.tup (p.map D.int)))) p 0 none
  have e : hFor (.one 2) (gItT (gV 0)) (hSet 1 (gCall mGcd (FL.gCons (gV 1) (FL.gCons (gV 2) FL.gNil)))) [some (.d (.tup (p.map D.int))), some (.d (.int 0)), none] = some (.nx [some (.d (.tup (p.map D.int))), some (.d (.int (Int.ofNat (gcdL p 0)))), w']) := h
  simp only [m_content, h_content, FL.runF, FL.hSeq, FL.hSet, FL.hIf, FL.hRet, FL.hNil, FL.hExpr, FL.gT, FL.g1, FL.g2, FL.gV, FL.gC, FL.gCall, FL.gCons, FL.gNil, FL.stv, FL.gTup, FL.gLst, FL.fMod, FL.fNeg, FL.gAnd, FL.gOr, FL.gNot, FL.hPar2, FL.asg, FT.e_ix0, FT.e_ix1, FT.e_add, FT.e_sub, FT.e_lt, FT.e_gt, FT.e_ge, FT.e_gcd, FT.e_at0, FT.e_at1, FT.e_at2, FT.e_at3, FT.e_put0, FT.e_put1, FT.e_put2, FT.e_put3, FT.e_put4, FT.e_init1, FT.e_init2, FT.e_init3, FT.e_no0, FT.e_no1, FT.e_no2, FT.e_no3, FT.e_no5, FT.e_no6, FT.e_is1, FT.e_is2, FT.e_is3, FT.e_as0, FT.e_as1, FT.e_as2, FT.e_sm0, FT.e_sm1, FT.e_sm2, FT.e_len, if_true, e]
theorem content_ok (p : List Int) : M_content [.d (.tup (p.map D.int))] = some (.d (.int (Int.ofNat (gcdL p 0)))) := by
  show (match intsOf (p.map D.int) with
    | some p => forceN (gcdL p 0) fun g => some (R.d (.int (Int.ofNat g)))
    | none => none) = _
  rw [intsOf_map]
  exact forceN_eq _ _
theorem le_content (rs : List R) (z : R) (h : M_content rs = some z) : m_content rs = some z := by
  unfold M_content at h
  split at h
  · split at h
    · rename_i p hp
      rw [forceN_eq] at h
      rw [intsOf_ok hp, content_m p, ← h]
    · cases h
  · cases h

def h_primitive : Ev → Option Out := (hSeq (hIf (gT (g2 fEq (gV 0) (gTup gNil))) (hRet (gTup gNil)) hNil)
  (hSeq (hSet 1 (gCall M_content (FL.gCons (gV 0) gNil)))
  (hSeq (hIf (gT (g2 fLt (g2 fIx (gV 0) (g1 fNeg (gC (.int 1)))) (gC (.int 0)))) (hSet 1 (g1 fNeg (gV 1))) hNil)
  (hRet (gCall mTuple (FL.gCons (gComp (gItT (gV 0)) (.one 2) cYes (g2 fDiv (gV 2) (gV 1)) [2]) gNil))))))
def m_primitive : List R → Option R := runF 1 2 h_primitive
theorem onlyI_map : ∀ p : List Int, onlyI (p.map D.int) = true
  | [] => rfl
  | _ :: p => onlyI_map p
theorem fEq_nil (p : List Int) : fEq (.d (.tup (p.map D.int))) (.d (.tup [])) = some (.d (.bl (match p with | [] => true | _ :: _ => false))) := by
  have e : eqA (.d (.tup (p.map D.int))) (.d (.tup [])) = some (match p with | [] => true | _ :: _ => false) := by
    show (match (if onlyI (p.map D.int) then some (match p.map D.int with
      | [] => true
      | _ :: _ => false) else none) with
      | some b => some b
      | none => eqR (.d (.tup (p.map D.int))) (.d (.tup []))) = _
    rw [if_pos (onlyI_map p)]
    cases p <;> rfl
  unfold fEq
  rw [e]
def lastR (p : List Int) : Option Int := List.rec (motive := fun _ => Option Int) none (fun a _ ih => match ih with
  | none => some a
  | some b => some b) p
theorem lastR_eq : ∀ p : List Int, lastR p = p.getLast?
  | [] => rfl
  | a :: p => by
    have e : lastR (a :: p) = (match lastR p with
      | none => some a
      | some b => some b) := rfl
    rw [e, lastR_eq p]
    cases p with
    | nil => rfl
    | cons b p =>
      rw [List.getLast?_cons_cons]
      cases h : (b :: p).getLast? with
      | none => simp at h
      | some c => rfl
def divK (k : Int) (p : List Int) : List Int := List.rec (motive := fun _ => List Int) [] (fun a _ ih => (a.fdiv k) :: ih) p
theorem divK_eq (k : Int) : ∀ p : List Int, divK k p = p.map (·.fdiv k)
  | [] => rfl
  | a :: p => by
    show (a.fdiv k) :: divK k p = _
    rw [divK_eq k p]
    rfl
/-- all coefficients by s -/
def T_by (p : List Int) (s : Int) : Option (List Int) := if okD s && Nat.ble (len p) 1000 then forceL (divK s p) some else none
def T_prim (p : List Int) : Option (List Int) := match lastR p with
  | none => some []
  | some a => if ltZ a then forceI (-(Int.ofNat (gcdL p 0))) fun s => T_by p s else forceI (Int.ofNat (gcdL p 0)) fun s => T_by p s
def M_primitive : List R → Option R
  | [.d (.tup ds)] => match intsOf ds with
    | some p => outPo (T_prim p)
    | none => none
  | _ => none
theorem fIx_last {p : List Int} {a : Int} (h : p.getLast? = some a) : fIx (.d (.tup (p.map D.int))) (.d (.int (-1))) = some (.d (.int a)) := by
  show (match ixD (p.map D.int) (Int.negSucc 0) with
    | some d => some (R.d d)
    | none => none) = _
  rw [ix_last rfl h]
theorem by_comp {p r : List Int} {s : Int} {ρ : Ev} {i j : Nat} {ga : Ev → Option R} (h : T_by p s = some r) (ha : ga ρ = some (.d (.tup (p.map D.int)))) (hs : ∀ a : Int, g2 fDiv (gV i) (gV j) (put (wipeE ρ [i]) i (some (.d (.int a)))) = fDiv (.d (.int a)) (.d (.int s))) :
    gCall mTuple (FL.gCons (gComp (gItT ga) (.one i) cYes (g2 fDiv (gV i) (gV j)) [i]) FL.gNil) ρ = some (.d (.tup (r.map D.int))) := by
  unfold T_by at h
  split at h
  · rename_i hc
    rw [forceL_eq] at h
    cases h
    rw [Bool.and_eq_true, len_eq] at hc
    have hl := Nat.le_of_ble_eq_true hc.2
    have e1 : compF (.one i) cYes (g2 fDiv (gV i) (gV j)) (wipeE ρ [i]) (p.map D.int) = some (p.map fun a => .int (a.fdiv s)) := by
      refine compF_gen D.int (fun a => .int (a.fdiv s)) p fun a _ => ⟨_, rfl, rfl, ?_⟩
      rw [hs a]
      exact e_div hc.1
    have e2 : gComp (gItT ga) (.one i) cYes (g2 fDiv (gV i) (gV j)) [i] ρ = some (.l true ((divK s p).map D.int)) := by
      simp only [gComp, gItT, ha, small_map (e := D.int) hl, if_true, e1, divK_eq, List.map_map]
      rfl
    rw [call1_of e2]
    rfl
  · cases h
theorem prim_m {p r : List Int} (h : T_prim p = some r) : m_primitive [.d (.tup (p.map D.int))] = some (.d (.tup (r.map D.int))) := by
  unfold T_prim at h
  rw [lastR_eq] at h
  split at h
  · rename_i hn
    cases h
    have hp : p = [] := List.getLast?_eq_none_iff.mp hn
    subst hp
    rfl
  · rename_i a ha
    have hne : ∃ b q, p = b :: q := by
      cases p with
      | nil => cases ha
      | cons b q => exact ⟨b, q, rfl⟩
    obtain ⟨b, q, hbq⟩ := hne
    have e1 : fEq (.d (.tup (p.map D.int))) (.d (.tup [])) = some (.d (.bl false)) := by
      rw [fEq_nil]
      subst hbq
      rfl
    have e2 := content_ok p
    have e3 := fIx_last ha
    have en : FL.fNeg (.d (.int 1)) = some (.d (.int (-1))) := rfl
    simp only [forceI_eq, ltZ_eq] at h
    have hsm : small [] = true := rfl
    by_cases hb : a < 0
    · rw [if_pos (decide_eq_true hb)] at h
      have e4 := by_comp (ρ := [some (.d (.tup (p.map D.int))), some (.d (.int (-(Int.ofNat (gcdL p 0))))), none]) (i := 2) (j := 1) (ga := gV 0) h rfl fun _ => rfl
      simp only [m_primitive, h_primitive, FL.runF, FT.e_init1, FT.e_init2, FT.e_init3, FT.e_no0, FT.e_no1, FT.e_no2, FT.e_no3, FT.e_no5, FT.e_no6, FT.e_is1, FT.e_is2, FT.e_is3, FL.hSeq, FL.hSet, FL.hIf, FL.hNil, FL.gT, FL.g1, FL.g2, FL.gV, FL.gC, FL.gCall, FL.gCons, FL.gNil, FT.e_at0, FT.e_at1, FT.e_at2, FT.e_at3, FL.stv, FL.gTup, FT.e_as0, FT.e_as1, FT.e_as2, FT.e_put0, FT.e_put1, FT.e_put2, FT.e_put3, FT.e_put4, e1, e2, e3, hsm, if_true, en, e_lt, hb, decide_true, FL.fNeg]
      simp only [FL.hRet]
      rw [e4]
    · rw [if_neg (by simp [hb])] at h
      have e4 := by_comp (ρ := [some (.d (.tup (p.map D.int))), some (.d (.int (Int.ofNat (gcdL p 0)))), none]) (i := 2) (j := 1) (ga := gV 0) h rfl fun _ => rfl
      simp only [m_primitive, h_primitive, FL.runF, FT.e_init1, FT.e_init2, FT.e_init3, FT.e_no0, FT.e_no1, FT.e_no2, FT.e_no3, FT.e_no5, FT.e_no6, FT.e_is1, FT.e_is2, FT.e_is3, FL.hSeq, FL.hSet, FL.hIf, FL.hNil, FL.gT, FL.g1, FL.g2, FL.gV, FL.gC, FL.gCall, FL.gCons, FL.gNil, FT.e_at0, FT.e_at1, FT.e_at2, FT.e_at3, FL.stv, FL.gTup, FT.e_as0, FT.e_as1, FT.e_as2, FT.e_put0, FT.e_put1, FT.e_put2, FT.e_put3, FT.e_put4, e1, e2, e3, hsm, if_true, en, e_lt, hb, decide_false, FL.fNeg]
      simp only [FL.hRet]
      rw [e4]
theorem le_primitive (rs : List R) (z : R) (h : M_primitive rs = some z) : m_primitive rs = some z := by
  unfold M_primitive at h
  split at h
  · split at h
    · rename_i p hp
      obtain ⟨r, hT, rfl⟩ := outPo_inv h
      rw [intsOf_ok hp]
      exact prim_m hT
    · cases h
  · cases h
theorem prim_ok {p r : List Int} (h : T_prim p = some r) : M_primitive [.d (.tup (p.map D.int))] = some (.d (.tup (r.map D.int))) := by
  show (match intsOf (p.map D.int) with
    | some p => outPo (T_prim p)
    | none => none) = _
  rw [intsOf_map]
  show outPo (T_prim p) = _
  rw [h]
  exact outP_eq r

def h_derivative : Ev → Option Out := (hRet (gCall M_trimmed (FL.gCons (gSl fSl (gComp (gEnum (FL.gCons (gV 0) gNil)) (.two 1 2) cYes (g2 fMul (gV 1) (gV 2)) [1, 2]) (gPart (gC (.int 1))) gPart0) gNil)))
def m_derivative : List R → Option R := runF 1 2 h_derivative
def derL (p : List Int) : Int → List Int := List.rec (motive := fun _ => Int → List Int) (fun _ => []) (fun a _ ih i => (i * a) :: ih (i + 1)) p
def derM (p : List Int) : Int → Bool := List.rec (motive := fun _ => Int → Bool) (fun _ => true) (fun a _ ih i => okM i a && ih (i + 1)) p
theorem derL_cons (a : Int) (p : List Int) (i : Int) : derL (a :: p) i = (i * a) :: derL p (i + 1) := rfl
theorem derM_cons (a : Int) (p : List Int) (i : Int) : derM (a :: p) i = (okM i a && derM p (i + 1)) := rfl
theorem derL_len : ∀ (p : List Int) (i : Int), (derL p i).length = p.length
  | [], _ => rfl
  | a :: p, i => by
    rw [derL_cons, List.length_cons, List.length_cons, derL_len p]
def tl (p : List Int) : List Int := List.rec (motive := fun _ => List Int) [] (fun _ p _ => p) p
def T_der (p : List Int) : Option (List Int) := if Nat.ble (len p) 18 && derM p 0 then forceL (trimR (tl (derL p 0))) some else none
def M_derivative : List R → Option R
  | [.d (.tup ds)] => match intsOf ds with
    | some p => outPo (T_der p)
    | none => none
  | _ => none
theorem der_comp (ρ : Ev) (X : Option R) (hρ : ρ = [X, none, none]) : ∀ (p : List Int) (i : Int), derM p i = true → compF (.two 1 2) cYes (g2 fMul (gV 1) (gV 2)) ρ (enumD i (p.map D.int)) = some ((derL p i).map D.int)
  | [], i, _ => rfl
  | a :: p, i, h => by
    rw [derM_cons, Bool.and_eq_true] at h
    have ih := der_comp ρ X hρ p (i + 1) h.2
    subst hρ
    have e : g2 fMul (gV 1) (gV 2) [X, some (.d (.int i)), some (.d (.int a))] = some (.d (.int (i * a))) := by
      rw [g2_of (x := .d (.int i)) (y := .d (.int a)) rfl rfl]
      exact e_mul h.1
    show compF (.two 1 2) cYes (g2 fMul (gV 1) (gV 2)) [X, none, none] (.tup [.int i, .int a] :: enumD (i + 1) (p.map D.int)) = _
    rw [compF_cons]
    show (match g2 fMul (gV 1) (gV 2) [X, some (.d (.int i)), some (.d (.int a))] with
      | some (.d y) => match compF (.two 1 2) cYes (g2 fMul (gV 1) (gV 2)) [X, none, none] (enumD (i + 1) (p.map D.int)) with
        | some ys => some (y :: ys)
        | none => none
      | _ => none) = _
    rw [e, ih]
    rfl
theorem cut_tail (l : List Int) : cutG (l.map D.int) (some 1) none = (tl l).map D.int := by
  cases l with
  | nil => rfl
  | cons a l =>
    unfold cutG
    have e : HT.sIx ((a :: l).map D.int).length 0 (some 1) = 1 := by
      show HT.sIx _ 0 (some ((1 : Nat) : Int)) = 1
      rw [HT.sIx_nat, List.length_map, List.length_cons]
      omega
    rw [e, HT.sIx_none]
    show (l.map D.int).take ((((a :: l).map D.int)).length - 1) = l.map D.int
    apply List.take_of_length_le
    simp
theorem le_derivative (rs : List R) (z : R) (h : M_derivative rs = some z) : m_derivative rs = some z := by
  unfold M_derivative at h
  split at h
  · split at h
    · rename_i p hp
      obtain ⟨r, hT, rfl⟩ := outPo_inv h
      rw [intsOf_ok hp]
      unfold T_der at hT
      split at hT
      · rename_i hc
        rw [forceL_eq] at hT
        cases hT
        rw [Bool.and_eq_true, len_eq] at hc
        have hl := Nat.le_of_ble_eq_true hc.1
        have e1 := der_comp [some (.d (.tup (p.map D.int))), none, none] _ rfl p 0 hc.2
        have e2 : gComp (gEnum (FL.gCons (gV 0) FL.gNil)) (.two 1 2) cYes (g2 fMul (gV 1) (gV 2)) [1, 2] [some (.d (.tup (p.map D.int))), none, none] = some (.l true ((derL p 0).map D.int)) := by
          have sm : small (enumD 0 (p.map D.int)) = true := by
            rw [small_eq]
            apply Nat.ble_eq_true_of_le
            rw [enumD_len, List.length_map]
            omega
          show (if small (enumD 0 (p.map D.int)) then (match compF (.two 1 2) cYes (g2 fMul (gV 1) (gV 2)) [some (.d (.tup (p.map D.int))), none, none] (enumD 0 (p.map D.int)) with
            | some ys => some (R.l true ys)
            | none => none) else none) = _
          rw [if_pos sm, e1]
        have e3 : gSl fSl (gComp (gEnum (FL.gCons (gV 0) FL.gNil)) (.two 1 2) cYes (g2 fMul (gV 1) (gV 2)) [1, 2]) (gPart (gC (.int 1))) gPart0 [some (.d (.tup (p.map D.int))), none, none] = some (.l true ((tl (derL p 0)).map D.int)) := by
          show (match gComp (gEnum (FL.gCons (gV 0) FL.gNil)) (.two 1 2) cYes (g2 fMul (gV 1) (gV 2)) [1, 2] [some (.d (.tup (p.map D.int))), none, none] with
            | some x => fSl x (some 1) none
            | none => none) = _
          rw [e2]
          show some (R.l true (cutG ((derL p 0).map D.int) (some 1) none)) = _
          rw [cut_tail]
        have e4 := trim_lst true (trim_ok (p := tl (derL p 0)) (by
          have : (tl (derL p 0)).length ≤ (derL p 0).length := by
            cases derL p 0 with
            | nil => exact Nat.le_refl _
            | cons a l => exact Nat.le_succ _
          rw [derL_len] at this
          omega))
        show (match (match gCall M_trimmed (FL.gCons (gSl fSl (gComp (gEnum (FL.gCons (gV 0) FL.gNil)) (.two 1 2) cYes (g2 fMul (gV 1) (gV 2)) [1, 2]) (gPart (gC (.int 1))) gPart0) FL.gNil) [some (.d (.tup (p.map D.int))), none, none] with
          | some r => some (Out.rt r)
          | none => none) with
          | some (.rt r) => some r
          | some (.nx _) => some (.d .non)
          | _ => none) = _
        rw [call1_of e3, e4]
      · cases hT
    · cases h
  · cases h
theorem der_ok {p r : List Int} (h : T_der p = some r) : M_derivative [.d (.tup (p.map D.int))] = some (.d (.tup (r.map D.int))) := by
  show (match intsOf (p.map D.int) with
    | some p => outPo (T_der p)
    | none => none) = _
  rw [intsOf_map]
  show outPo (T_der p) = _
  rw [h]
  exact outP_eq r

def h_value_of : Ev → Option Out := (hSeq (hSet 2 (gTup (FL.gCons (gC (.int 0)) (FL.gCons (gC (.int 1)) gNil))))
  (hSeq (hFor (.one 3) (gItT (gStep (gV 0) gPart0 gPart0 (gPart (g1 fNeg (gC (.int 1)))))) (hSet 2 (gCall M_plus (FL.gCons (gCall M_times (FL.gCons (gV 2) (FL.gCons (gV 1) gNil))) (FL.gCons (gTup (FL.gCons (gV 3) (FL.gCons (gC (.int 1)) gNil))) gNil)))))
  (hRet (gV 2))))
def m_value_of : List R → Option R := runF 2 2 h_value_of
def T_step (x y n d a : Int) : Option (Int × Int) := match T_times x y n d with
  | some (u, v) => T_plus u v a 1
  | none => none
def valL (n d : Int) : List Int → Int → Int → Option (Int × Int)
  | [], x, y => some (x, y)
  | a :: q, x, y => match T_step x y n d a with
    | some (u, v) => valL n d q u v
    | none => none
def T_val (p : List Int) (n d : Int) : Option (Int × Int) := List.rec (motive := fun _ => Option (Int × Int)) (some (0, 1)) (fun a _ ih => match ih with
  | some (x, y) => T_step x y n d a
  | none => none) p
theorem valL_snoc (n d a : Int) : ∀ (q : List Int) (x y : Int), valL n d (q ++ [a]) x y = (match valL n d q x y with
    | some (u, v) => T_step u v n d a
    | none => none)
  | [], x, y => by
    show (match T_step x y n d a with
      | some (u, v) => some (u, v)
      | none => none) = T_step x y n d a
    cases h : T_step x y n d a with
    | none => rfl
    | some uv => rfl
  | b :: q, x, y => by
    show (match T_step x y n d b with
      | some (u, v) => valL n d (q ++ [a]) u v
      | none => none) = (match (match T_step x y n d b with
      | some (u, v) => valL n d q u v
      | none => none) with
      | some (u, v) => T_step u v n d a
      | none => none)
    cases h : T_step x y n d b with
    | none => rfl
    | some uv => exact valL_snoc n d a q uv.1 uv.2
theorem T_val_eq (n d : Int) : ∀ p : List Int, T_val p n d = valL n d p.reverse 0 1
  | [] => rfl
  | a :: p => by
    rw [List.reverse_cons, valL_snoc, ← T_val_eq n d p]
    rfl
def M_value_of : List R → Option R
  | [.d (.tup ds), .d (.tup [.int n, .int d])] => match intsOf ds with
    | some p => if Nat.ble (len p) 1000 then outQ (T_val p n d) else none
    | none => none
  | _ => none
theorem val_loop (X : Option R) (n d : Int) : ∀ (q : List Int) (x y u v : Int) (w : Option R), valL n d q x y = some (u, v) → ∃ w', forF (.one 3) (hSet 2 (gCall M_plus (FL.gCons (gCall M_times (FL.gCons (gV 2) (FL.gCons (gV 1) FL.gNil))) (FL.gCons (gTup (FL.gCons (gV 3) (FL.gCons (gC (.int 1)) FL.gNil))) FL.gNil)))) (q.map D.int) [X, some (.d (encQ n d)), some (.d (encQ x y)), w] = some (.nx [X, some (.d (encQ n d)), some (.d (encQ u v)), w'])
  | [], x, y, u, v, w, h => by
    cases h
    exact ⟨w, rfl⟩
  | a :: q, x, y, u, v, w, h => by
    have h' : (match T_step x y n d a with
      | some (u, v) => valL n d q u v
      | none => none) = some (u, v) := h
    split at h'
    · rename_i x1 y1 h1
      obtain ⟨w', ih⟩ := val_loop X n d q x1 y1 u v (some (.d (.int a))) h'
      refine ⟨w', ?_⟩
      unfold T_step at h1
      split at h1
      · rename_i s t h2
        have e1 : M_times [.d (encQ x y), .d (encQ n d)] = some (.d (encQ s t)) := by
          show outQ (T_times x y n d) = _
          rw [h2]
          rfl
        have e2 : M_plus [.d (encQ s t), .d (encQ a 1)] = some (.d (encQ x1 y1)) := by
          show outQ (T_plus s t a 1) = _
          rw [h1]
          rfl
        have e3 : gCall M_times (FL.gCons (gV 2) (FL.gCons (gV 1) FL.gNil)) [X, some (.d (encQ n d)), some (.d (encQ x y)), some (.d (.int a))] = some (.d (encQ s t)) := by
          rw [call2_of (x := .d (encQ x y)) (y := .d (encQ n d)) rfl rfl]
          exact e1
        have e4 : gCall M_plus (FL.gCons (gCall M_times (FL.gCons (gV 2) (FL.gCons (gV 1) FL.gNil))) (FL.gCons (gTup (FL.gCons (gV 3) (FL.gCons (gC (.int 1)) FL.gNil))) FL.gNil)) [X, some (.d (encQ n d)), some (.d (encQ x y)), some (.d (.int a))] = some (.d (encQ x1 y1)) := by
          rw [call2_of (x := .d (encQ s t)) (y := .d (encQ a 1)) e3 rfl]
          exact e2
        rw [← ih]
        show forF _ _ (.int a :: q.map D.int) _ = _
        have eb : hSet 2 (gCall M_plus (FL.gCons (gCall M_times (FL.gCons (gV 2) (FL.gCons (gV 1) FL.gNil))) (FL.gCons (gTup (FL.gCons (gV 3) (FL.gCons (gC (.int 1)) FL.gNil))) FL.gNil))) [X, some (.d (encQ n d)), some (.d (encQ x y)), some (.d (.int a))] = some (.nx [X, some (.d (encQ n d)), some (.d (encQ x1 y1)), some (.d (.int a))]) := by
          unfold hSet
          rw [e4]
          rfl
        rw [forF_cons]
        show (match hSet 2 _ [X, some (.d (encQ n d)), some (.d (encQ x y)), some (.d (.int a))] with
          | some (.nx ρ') => forF _ _ (q.map D.int) ρ'
          | some (.ct ρ') => forF _ _ (q.map D.int) ρ'
          | some (.bk ρ') => some (Out.nx ρ')
          | some (.rt r) => some (Out.rt r)
          | none => none) = _
        rw [eb]
      · cases h1
    · cases h'
theorem pick_rev {α : Type} (l : List α) : pickG l none none (-1) = l.reverse := by
  have hp : Builtin.Slice.slicePlaces ((l.length : Int) - 1) (-1) (-1) = l.length := by
    unfold Builtin.Slice.slicePlaces
    rw [if_neg (by omega)]
    by_cases hl : l.length = 0
    · rw [if_neg (by omega), hl]
      rfl
    · rw [if_pos (by omega)]
      have e : ((l.length : Int) - 1 - -1 - 1) / (- -1) + 1 = (l.length : Int) := by
        rw [show (- -1 : Int) = 1 by decide, Int.ediv_one]
        omega
      rw [e, Int.toNat_natCast]
  have ha : Builtin.Slice.sliceAdjust none none (-1) (l.length : Int) = ((l.length : Int) - 1, -1) := rfl
  unfold pickG
  rw [ha]
  show ((List.range (Builtin.Slice.slicePlaces ((l.length : Int) - 1) (-1) (-1))).filterMap fun (k : Nat) => l[(((l.length : Int) - 1) + (k : Int) * (-1)).toNat]?) = _
  rw [hp]
  have e2 : ∀ n, n ≤ l.length → ((List.range n).filterMap fun (k : Nat) => l[(((l.length : Int) - 1) + (k : Int) * (-1)).toNat]?) = l.reverse.take n := by
    intro n
    induction n with
    | zero => intro _; rfl
    | succ n ih =>
      intro hn
      have hn' : n < l.length := hn
      have e3 : (((l.length : Int) - 1) + (n : Int) * (-1)).toNat = l.length - 1 - n := by omega
      have e4 : l[l.length - 1 - n]? = some (l[l.length - 1 - n]'(by omega)) := List.getElem?_eq_getElem (by omega)
      rw [List.range_succ, List.filterMap_append, ih (by omega)]
      simp only [List.filterMap_cons, List.filterMap_nil, e3, e4]
      rw [List.take_succ_eq_append_getElem (by rw [List.length_reverse]; exact hn'), List.getElem_reverse]
  rw [e2 l.length (Nat.le_refl _)]
  exact List.take_of_length_le (by rw [List.length_reverse]; exact Nat.le_refl _)
theorem le_value_of (rs : List R) (z : R) (h : M_value_of rs = some z) : m_value_of rs = some z := by
  unfold M_value_of at h
  split at h
  · rename_i ds n d
    split at h
    · rename_i p hp
      split at h
      · rename_i hs
        obtain ⟨x, y, hT, rfl⟩ := outQ_inv h
        rw [len_eq] at hs
        have hs' := Nat.le_of_ble_eq_true hs
        rw [intsOf_ok hp]
        rw [T_val_eq] at hT
        obtain ⟨w', hl⟩ := val_loop (some (.d (.tup (p.map D.int)))) n d p.reverse 0 1 x y none hT
        have sm : small (p.reverse.map D.int) = true := small_map (by rw [List.length_reverse]; exact hs')
        have e1 : gItT (gStep (gV 0) gPart0 gPart0 (gPart (g1 fNeg (gC (.int 1))))) [some (.d (.tup (p.map D.int))), some (.d (encQ n d)), some (.d (encQ 0 1)), none] = some (p.reverse.map D.int) := by
          have e2 : gStep (gV 0) gPart0 gPart0 (gPart (g1 fNeg (gC (.int 1)))) [some (.d (.tup (p.map D.int))), some (.d (encQ n d)), some (.d (encQ 0 1)), none] = some (.d (.tup (p.reverse.map D.int))) := by
            show (if ((-1 : Int) == 0 || (-1 : Int) == 1) then none else (if small (pickG (p.map D.int) none none (-1)) then some (R.d (.tup (pickG (p.map D.int) none none (-1)))) else none)) = _
            rw [pick_rev, ← List.map_reverse, if_neg (by decide), if_pos sm]
          simp only [gItT, e2]
        have e3 : hFor (.one 3) (gItT (gStep (gV 0) gPart0 gPart0 (gPart (g1 fNeg (gC (.int 1)))))) (hSet 2 (gCall M_plus (FL.gCons (gCall M_times (FL.gCons (gV 2) (FL.gCons (gV 1) FL.gNil))) (FL.gCons (gTup (FL.gCons (gV 3) (FL.gCons (gC (.int 1)) FL.gNil))) FL.gNil)))) [some (.d (.tup (p.map D.int))), some (.d (encQ n d)), some (.d (encQ 0 1)), none] = some (.nx [some (.d (.tup (p.map D.int))), some (.d (encQ n d)), some (.d (encQ x y)), w']) := by
          unfold hFor
          rw [e1]
          exact hl
        have e4 : gTup (FL.gCons (gC (.int 0)) (FL.gCons (gC (.int 1)) FL.gNil)) [some (.d (.tup (p.map D.int))), some (.d (encQ n d)), none, none] = some (.d (encQ 0 1)) := rfl
        simp only [m_value_of, h_value_of, FL.runF, FT.e_init1, FT.e_init2, FT.e_init3, FT.e_no0, FT.e_no1, FT.e_no2, FT.e_no3, FT.e_no5, FT.e_no6, FT.e_is1, FT.e_is2, FT.e_is3, FL.hSeq, FL.hSet, e4, FL.stv, FT.e_put0, FT.e_put1, FT.e_put2, FT.e_put3, FT.e_put4, e3]
        rfl
      · cases h
    · cases h
  · cases h
theorem val_ok {p : List Int} {n d x y : Int} (hs : p.length ≤ 1000) (h : T_val p n d = some (x, y)) : M_value_of [.d (.tup (p.map D.int)), .d (encQ n d)] = some (.d (encQ x y)) := by
  show (match intsOf (p.map D.int) with
    | some p => if Nat.ble (len p) 1000 then outQ (T_val p n d) else none
    | none => none) = _
  rw [intsOf_map]
  show (if Nat.ble (len p) 1000 then outQ (T_val p n d) else none) = _
  rw [len_eq, if_pos (Nat.ble_eq_true_of_le hs), h]
  rfl
end FT
end
end -- GH4
section -- GH5
set_option Elab.async false
set_option linter.all false
set_option maxRecDepth 100000
/-! remainders, common divisors -/
noncomputable section
namespace FT
open PySem PySem.Spec PyProof.Rows L2 FL
def h_remainder : Ev → Option Out := (hSeq (hPar2 2 3 (gV 0) (g2 fIx (gV 1) (g1 fNeg (gC (.int 1)))))
  (hSeq (hWhile 20 (gT (g2 fGe (gCall mLen (FL.gCons (gV 2) gNil)) (gCall mLen (FL.gCons (gV 1) gNil)))) (hSeq (hSet 4 (g2 fSub (gCall mLen (FL.gCons (gV 2) gNil)) (gCall mLen (FL.gCons (gV 1) gNil))))
  (hSeq (hSet 5 (gCall M_scaled (FL.gCons (gTup (gStar (g2 fMul (gLst (FL.gCons (gC (.int 0)) gNil)) (gV 4)) (gStar (gV 1) gNil))) (FL.gCons (gIf (gT (g2 fGt (gV 3) (gC (.int 0)))) (g2 fIx (gV 2) (g1 fNeg (gC (.int 1)))) (g1 fNeg (g2 fIx (gV 2) (g1 fNeg (gC (.int 1)))))) gNil))))
  (hSet 2 (gCall M_poly_minus (FL.gCons (gCall M_scaled (FL.gCons (gV 2) (FL.gCons (gCall mAbs (FL.gCons (gV 3) gNil)) gNil))) (FL.gCons (gV 5) gNil)))))))
  (hSeq (hSet 6 (gCall M_content (FL.gCons (gV 2) gNil)))
  (hRet (gIf (gT (g2 fGt (gV 6) (gC (.int 1)))) (gCall mTuple (FL.gCons (gComp (gItT (gV 2)) (.one 7) cYes (g2 fDiv (gV 7) (gV 6)) [7]) gNil)) (gV 2))))))
def m_remainder : List R → Option R := runF 2 6 h_remainder
def zeros (n : Nat) (q : List Int) : List Int := Nat.rec (motive := fun _ => List Int) q (fun _ ih => (0 : Int) :: ih) n
theorem zeros_eq (q : List Int) : ∀ n, zeros n q = List.replicate n 0 ++ q
  | 0 => rfl
  | n + 1 => by
    show (0 : Int) :: zeros n q = _
    rw [zeros_eq q n]
    rfl
def T_turn (r q : List Int) (lead : Int) : Option (List Int) := match lastR r with
  | none => none
  | some a => match (if ltZ (-lead) then T_scaled (zeros (len r - len q) q) a else forceI (-a) fun b => T_scaled (zeros (len r - len q) q) b) with
    | some part => match T_scaled r (if ltZ lead then -lead else lead) with
      | some r1 => T_minusP r1 part
      | none => none
    | none => none
def remL (q : List Int) (lead : Int) : Nat → List Int → Option (List Int)
  | 0, _ => none
  | f + 1, r => if Nat.ble (len q) (len r) then (match T_turn r q lead with
    | some r2 => remL q lead f r2
    | none => none) else some r
def T_rem (p q : List Int) : Option (List Int) := match lastR q with
  | none => none
  | some lead => match remL q lead 20 p with
    | some r => forceN (gcdL r 0) fun g => if Nat.ble 2 g then T_by r (Int.ofNat g) else some r
    | none => none
def M_remainder : List R → Option R
  | [.d (.tup ds), .d (.tup es)] => match intsOf ds with
    | some p => match intsOf es with
      | some q => outPo (T_rem p q)
      | none => none
    | none => none
  | _ => none
theorem ltZ_neg (a : Int) : ltZ (-a) = decide (0 < a) := by
  rw [ltZ_eq]
  by_cases h : 0 < a
  · rw [decide_eq_true h, decide_eq_true (by omega)]
  · rw [decide_eq_false h, decide_eq_false (by omega)]
theorem abs_eq (a : Int) : (if a < 0 then -a else a) = if ltZ a then -a else a := by
  rw [ltZ_eq]
  by_cases h : a < 0
  · rw [if_pos h, if_pos (decide_eq_true h)]
  · rw [if_neg h, if_neg (by simp [h])]
abbrev bodyR : Ev → Option Out := (hSeq (hSet 4 (g2 fSub (gCall mLen (FL.gCons (gV 2) FL.gNil)) (gCall mLen (FL.gCons (gV 1) FL.gNil))))
  (hSeq (hSet 5 (gCall M_scaled (FL.gCons (gTup (gStar (g2 fMul (gLst (FL.gCons (gC (.int 0)) FL.gNil)) (gV 4)) (gStar (gV 1) FL.gNil))) (FL.gCons (gIf (gT (g2 fGt (gV 3) (gC (.int 0)))) (g2 fIx (gV 2) (g1 fNeg (gC (.int 1)))) (g1 fNeg (g2 fIx (gV 2) (g1 fNeg (gC (.int 1)))))) FL.gNil))))
  (hSet 2 (gCall M_poly_minus (FL.gCons (gCall M_scaled (FL.gCons (gV 2) (FL.gCons (gCall mAbs (FL.gCons (gV 3) FL.gNil)) FL.gNil))) (FL.gCons (gV 5) FL.gNil))))))
theorem asDs_map : ∀ ds : List D, asDs (ds.map R.d) = some ds
  | [] => rfl
  | d :: ds => by simp only [List.map_cons, FL.asDs_cons, asDs_map ds]
theorem scaled_len {p r : List Int} {k : Int} (h : T_scaled p k = some r) : p.length ≤ 18 := by
  unfold T_scaled at h
  split at h
  · rename_i hc
    rw [Bool.and_eq_true, len_eq] at hc
    exact Nat.le_of_ble_eq_true hc.1
  · cases h
theorem turn_ok {X : Option R} {q r r2 : List Int} {lead : Int} {w4 w5 w6 w7 : Option R} (hlen : q.length ≤ r.length) (h : T_turn r q lead = some r2) :
    ∃ w4' w5', bodyR [X, some (.d (.tup (q.map D.int))), some (.d (.tup (r.map D.int))), some (.d (.int lead)), w4, w5, w6, w7] = some (.nx [X, some (.d (.tup (q.map D.int))), some (.d (.tup (r2.map D.int))), some (.d (.int lead)), w4', w5', w6, w7]) := by
  unfold T_turn at h
  rw [lastR_eq] at h
  split at h
  · cases h
  · rename_i a ha
    split at h
    · rename_i part hpart
      split at h
      · rename_i r1 hr1
        rw [len_eq, len_eq, zeros_eq, ltZ_neg] at hpart
        have e0 : g2 fSub (gCall mLen (FL.gCons (gV 2) FL.gNil)) (gCall mLen (FL.gCons (gV 1) FL.gNil)) [X, some (.d (.tup (q.map D.int))), some (.d (.tup (r.map D.int))), some (.d (.int lead)), w4, w5, w6, w7] = some (.d (.int (Int.ofNat (r.length - q.length)))) := by
          rw [g2_of (x := .d (.int (Int.ofNat r.length))) (y := .d (.int (Int.ofNat q.length))) (by rw [call1_of (x := .d (.tup (r.map D.int))) rfl]; simp only [FT.e_len, List.length_map]) (by rw [call1_of (x := .d (.tup (q.map D.int))) rfl]; simp only [FT.e_len, List.length_map]), e_sub]
          rw [show Int.ofNat r.length - Int.ofNat q.length = Int.ofNat (r.length - q.length) by show (r.length : Int) - (q.length : Int) = ((r.length - q.length : Nat) : Int); omega]
        generalize hρ : [X, some (R.d (.tup (q.map D.int))), some (.d (.tup (r.map D.int))), some (.d (.int lead)), some (.d (.int (Int.ofNat (r.length - q.length)))), w5, w6, w7] = ρ1
        have v1 : gV 1 ρ1 = some (.d (.tup (q.map D.int))) := by rw [← hρ]; rfl
        have v2 : gV 2 ρ1 = some (.d (.tup (r.map D.int))) := by rw [← hρ]; rfl
        have v3 : gV 3 ρ1 = some (.d (.int lead)) := by rw [← hρ]; rfl
        have v4 : gV 4 ρ1 = some (.d (.int (Int.ofNat (r.length - q.length)))) := by rw [← hρ]; rfl
        have hl18 : (List.replicate (r.length - q.length) (0 : Int) ++ q).length ≤ 18 := by
          split at hpart
          · exact scaled_len hpart
          · rw [forceI_eq] at hpart
            exact scaled_len hpart
        rw [List.length_append, List.length_replicate] at hl18
        have e1 : g2 fMul (gLst (FL.gCons (gC (.int 0)) FL.gNil)) (gV 4) ρ1 = some (.l true ((List.replicate (r.length - q.length) (0 : Int)).map D.int)) := by
          rw [g2_of (x := .l true [.int 0]) rfl v4]
          show (if Nat.ble (r.length - q.length) 1000 && Nat.ble 1 1000 then some (R.l true (repD [.int 0] (r.length - q.length))) else none) = _
          rw [repD_map, if_pos]
          rw [Nat.ble_eq_true_of_le (by omega : r.length - q.length ≤ 1000)]
          rfl
        have e2 : gTup (gStar (g2 fMul (gLst (FL.gCons (gC (.int 0)) FL.gNil)) (gV 4)) (gStar (gV 1) FL.gNil)) ρ1 = some (.d (.tup ((List.replicate (r.length - q.length) (0 : Int) ++ q).map D.int))) := by
          have e3 : gStar (gV 1) FL.gNil ρ1 = some ((q.map D.int).map R.d) := by
            simp only [FL.gStar, v1, FL.items, FL.gNil, FL.appD_eq, List.append_nil]
          have e4 : gStar (g2 fMul (gLst (FL.gCons (gC (.int 0)) FL.gNil)) (gV 4)) (gStar (gV 1) FL.gNil) ρ1 = some (((List.replicate (r.length - q.length) (0 : Int) ++ q).map D.int).map R.d) := by
            conv => lhs; unfold FL.gStar
            rw [e1]
            show (match gStar (gV 1) FL.gNil ρ1 with
              | some xs => some (appD ((List.replicate (r.length - q.length) (0 : Int)).map D.int) xs)
              | none => none) = _
            rw [e3]
            simp only [FL.appD_eq, List.map_append]
          have sm : small ((List.replicate (r.length - q.length) (0 : Int) ++ q).map D.int) = true := small_map (by rw [List.length_append, List.length_replicate]; omega)
          unfold FL.gTup
          rw [e4]
          simp only [asDs_map, sm, if_true]
        have en : g1 fNeg (gC (.int 1)) ρ1 = some (.d (.int (-1))) := rfl
        have e5 : g2 fIx (gV 2) (g1 fNeg (gC (.int 1))) ρ1 = some (.d (.int a)) := by
          rw [g2_of v2 en]
          exact fIx_last ha
        have e6 : gT (g2 fGt (gV 3) (gC (.int 0))) ρ1 = some (decide (0 < lead)) := by
          unfold gT
          rw [g2_of (y := .d (.int 0)) v3 rfl, e_gt]
        have e7 : gCall M_scaled (FL.gCons (gTup (gStar (g2 fMul (gLst (FL.gCons (gC (.int 0)) FL.gNil)) (gV 4)) (gStar (gV 1) FL.gNil))) (FL.gCons (gIf (gT (g2 fGt (gV 3) (gC (.int 0)))) (g2 fIx (gV 2) (g1 fNeg (gC (.int 1)))) (g1 fNeg (g2 fIx (gV 2) (g1 fNeg (gC (.int 1)))))) FL.gNil)) ρ1 = some (.d (.tup (part.map D.int))) := by
          by_cases hp : 0 < lead
          · rw [if_pos (decide_eq_true hp)] at hpart
            have e8 : gIf (gT (g2 fGt (gV 3) (gC (.int 0)))) (g2 fIx (gV 2) (g1 fNeg (gC (.int 1)))) (g1 fNeg (g2 fIx (gV 2) (g1 fNeg (gC (.int 1))))) ρ1 = some (.d (.int a)) := by
              unfold gIf
              rw [e6, decide_eq_true hp]
              exact e5
            rw [call2_of e2 e8]
            exact scaled_ok hpart
          · rw [if_neg (by simp [hp]), forceI_eq] at hpart
            have e8 : gIf (gT (g2 fGt (gV 3) (gC (.int 0)))) (g2 fIx (gV 2) (g1 fNeg (gC (.int 1)))) (g1 fNeg (g2 fIx (gV 2) (g1 fNeg (gC (.int 1))))) ρ1 = some (.d (.int (-a))) := by
              unfold gIf
              rw [e6, decide_eq_false hp]
              show g1 fNeg (g2 fIx (gV 2) (g1 fNeg (gC (.int 1)))) ρ1 = _
              rw [g1_of e5]
              rfl
            rw [call2_of e2 e8]
            exact scaled_ok hpart
        have eA : hSet 4 (g2 fSub (gCall mLen (FL.gCons (gV 2) FL.gNil)) (gCall mLen (FL.gCons (gV 1) FL.gNil))) [X, some (.d (.tup (q.map D.int))), some (.d (.tup (r.map D.int))), some (.d (.int lead)), w4, w5, w6, w7] = some (.nx ρ1) := by
          unfold hSet
          rw [e0, ← hρ]
          rfl
        have eB : hSet 5 (gCall M_scaled (FL.gCons (gTup (gStar (g2 fMul (gLst (FL.gCons (gC (.int 0)) FL.gNil)) (gV 4)) (gStar (gV 1) FL.gNil))) (FL.gCons (gIf (gT (g2 fGt (gV 3) (gC (.int 0)))) (g2 fIx (gV 2) (g1 fNeg (gC (.int 1)))) (g1 fNeg (g2 fIx (gV 2) (g1 fNeg (gC (.int 1)))))) FL.gNil))) ρ1 = some (.nx [X, some (.d (.tup (q.map D.int))), some (.d (.tup (r.map D.int))), some (.d (.int lead)), some (.d (.int (Int.ofNat (r.length - q.length)))), some (.d (.tup (part.map D.int))), w6, w7]) := by
          unfold hSet
          rw [e7, ← hρ]
          rfl
        have e9 : gCall mAbs (FL.gCons (gV 3) FL.gNil) [X, some (.d (.tup (q.map D.int))), some (.d (.tup (r.map D.int))), some (.d (.int lead)), some (.d (.int (Int.ofNat (r.length - q.length)))), some (.d (.tup (part.map D.int))), w6, w7] = some (.d (.int (if ltZ lead then -lead else lead))) := by
          rw [call1_of (x := .d (.int lead)) rfl, ← abs_eq]
          rfl
        have e10 : gCall M_scaled (FL.gCons (gV 2) (FL.gCons (gCall mAbs (FL.gCons (gV 3) FL.gNil)) FL.gNil)) [X, some (.d (.tup (q.map D.int))), some (.d (.tup (r.map D.int))), some (.d (.int lead)), some (.d (.int (Int.ofNat (r.length - q.length)))), some (.d (.tup (part.map D.int))), w6, w7] = some (.d (.tup (r1.map D.int))) := by
          rw [call2_of (x := .d (.tup (r.map D.int))) rfl e9]
          exact scaled_ok hr1
        have eC : hSet 2 (gCall M_poly_minus (FL.gCons (gCall M_scaled (FL.gCons (gV 2) (FL.gCons (gCall mAbs (FL.gCons (gV 3) FL.gNil)) FL.gNil))) (FL.gCons (gV 5) FL.gNil))) [X, some (.d (.tup (q.map D.int))), some (.d (.tup (r.map D.int))), some (.d (.int lead)), some (.d (.int (Int.ofNat (r.length - q.length)))), some (.d (.tup (part.map D.int))), w6, w7] = some (.nx [X, some (.d (.tup (q.map D.int))), some (.d (.tup (r2.map D.int))), some (.d (.int lead)), some (.d (.int (Int.ofNat (r.length - q.length)))), some (.d (.tup (part.map D.int))), w6, w7]) := by
          unfold hSet
          rw [call2_of (y := .d (.tup (part.map D.int))) e10 rfl, minusP_ok h]
          rfl
        refine ⟨some (.d (.int (Int.ofNat (r.length - q.length)))), some (.d (.tup (part.map D.int))), ?_⟩
        unfold bodyR FL.hSeq
        rw [eA]
        show (match hSet 5 _ ρ1 with
          | some (.nx ρ1) => hSet 2 _ ρ1
          | o => o) = _
        rw [eB]
        exact eC
      · cases h
    · cases h
theorem rem_loop {X : Option R} {q : List Int} {lead : Int} {w6 w7 : Option R} : ∀ (f : Nat) (r r2 : List Int) (w4 w5 : Option R), remL q lead f r = some r2 →
    ∃ w4' w5', whileF (gT (g2 fGe (gCall mLen (FL.gCons (gV 2) FL.gNil)) (gCall mLen (FL.gCons (gV 1) FL.gNil)))) bodyR f [X, some (.d (.tup (q.map D.int))), some (.d (.tup (r.map D.int))), some (.d (.int lead)), w4, w5, w6, w7] = some (.nx [X, some (.d (.tup (q.map D.int))), some (.d (.tup (r2.map D.int))), some (.d (.int lead)), w4', w5', w6, w7])
  | 0, r, r2, w4, w5, h => by cases h
  | f + 1, r, r2, w4, w5, h => by
    have hc : gT (g2 fGe (gCall mLen (FL.gCons (gV 2) FL.gNil)) (gCall mLen (FL.gCons (gV 1) FL.gNil))) [X, some (.d (.tup (q.map D.int))), some (.d (.tup (r.map D.int))), some (.d (.int lead)), w4, w5, w6, w7] = some (decide (Int.ofNat q.length ≤ Int.ofNat r.length)) := by
      unfold gT
      rw [g2_of (x := .d (.int (Int.ofNat r.length))) (y := .d (.int (Int.ofNat q.length))) (by rw [call1_of (x := .d (.tup (r.map D.int))) rfl]; simp only [FT.e_len, List.length_map]) (by rw [call1_of (x := .d (.tup (q.map D.int))) rfl]; simp only [FT.e_len, List.length_map]), e_ge]
    unfold remL at h
    rw [len_eq, len_eq] at h
    rw [whileF_succ, hc]
    by_cases hl : q.length ≤ r.length
    · rw [if_pos (Nat.ble_eq_true_of_le hl)] at h
      split at h
      · rename_i r3 h3
        obtain ⟨a4, a5, hb⟩ := turn_ok (X := X) (w4 := w4) (w5 := w5) (w6 := w6) (w7 := w7) hl h3
        obtain ⟨b4, b5, ih⟩ := rem_loop (X := X) (w6 := w6) (w7 := w7) f r3 r2 a4 a5 h
        refine ⟨b4, b5, ?_⟩
        rw [decide_eq_true (by show (q.length : Int) ≤ r.length; omega)]
        show (match bodyR _ with
          | some (.nx ρ') => whileF _ _ f ρ'
          | some (.ct ρ') => whileF _ _ f ρ'
          | some (.bk ρ') => some (Out.nx ρ')
          | some (.rt r) => some (Out.rt r)
          | none => none) = _
        rw [hb]
        exact ih
      · cases h
    · rw [if_neg (fun z => hl (Nat.le_of_ble_eq_true z))] at h
      cases h
      refine ⟨w4, w5, ?_⟩
      rw [decide_eq_false (by show ¬ (q.length : Int) ≤ r.length; omega)]
theorem rem_m {p q r : List Int} (h : T_rem p q = some r) : m_remainder [.d (.tup (p.map D.int)), .d (.tup (q.map D.int))] = some (.d (.tup (r.map D.int))) := by
  unfold T_rem at h
  rw [lastR_eq] at h
  split at h
  · cases h
  · rename_i lead hlead
    split at h
    · rename_i s hs
      rw [forceN_eq] at h
      obtain ⟨w4, w5, hl⟩ := rem_loop (X := some (.d (.tup (p.map D.int)))) (w6 := none) (w7 := none) 20 p s none none hs
      have e1 : hPar2 2 3 (gV 0) (g2 fIx (gV 1) (g1 fNeg (gC (.int 1)))) [some (.d (.tup (p.map D.int))), some (.d (.tup (q.map D.int))), none, none, none, none, none, none] = some (.nx [some (.d (.tup (p.map D.int))), some (.d (.tup (q.map D.int))), some (.d (.tup (p.map D.int))), some (.d (.int lead)), none, none, none, none]) := by
        have e2 : g2 fIx (gV 1) (g1 fNeg (gC (.int 1))) [some (.d (.tup (p.map D.int))), some (.d (.tup (q.map D.int))), none, none, none, none, none, none] = some (.d (.int lead)) := by
          rw [g2_of (x := .d (.tup (q.map D.int))) (y := .d (.int (-1))) rfl rfl]
          exact fIx_last hlead
        unfold hPar2
        rw [e2]
        rfl
      have e3 : hSet 6 (gCall M_content (FL.gCons (gV 2) FL.gNil)) [some (.d (.tup (p.map D.int))), some (.d (.tup (q.map D.int))), some (.d (.tup (s.map D.int))), some (.d (.int lead)), w4, w5, none, none] = some (.nx [some (.d (.tup (p.map D.int))), some (.d (.tup (q.map D.int))), some (.d (.tup (s.map D.int))), some (.d (.int lead)), w4, w5, some (.d (.int (Int.ofNat (gcdL s 0)))), none]) := by
        unfold hSet
        rw [call1_of (x := .d (.tup (s.map D.int))) rfl, content_ok]
        rfl
      have e4 : gIf (gT (g2 fGt (gV 6) (gC (.int 1)))) (gCall mTuple (FL.gCons (gComp (gItT (gV 2)) (.one 7) cYes (g2 fDiv (gV 7) (gV 6)) [7]) FL.gNil)) (gV 2) [some (.d (.tup (p.map D.int))), some (.d (.tup (q.map D.int))), some (.d (.tup (s.map D.int))), some (.d (.int lead)), w4, w5, some (.d (.int (Int.ofNat (gcdL s 0)))), none] = some (.d (.tup (r.map D.int))) := by
        have e5 : gT (g2 fGt (gV 6) (gC (.int 1))) [some (.d (.tup (p.map D.int))), some (.d (.tup (q.map D.int))), some (.d (.tup (s.map D.int))), some (.d (.int lead)), w4, w5, some (.d (.int (Int.ofNat (gcdL s 0)))), none] = some (decide ((1 : Int) < Int.ofNat (gcdL s 0))) := rfl
        unfold gIf
        rw [e5]
        by_cases hg : 2 ≤ gcdL s 0
        · rw [if_pos (Nat.ble_eq_true_of_le hg)] at h
          rw [decide_eq_true (by show (1 : Int) < (gcdL s 0 : Int); omega)]
          exact by_comp (i := 7) (j := 6) (ga := gV 2) h rfl fun _ => rfl
        · rw [if_neg (fun z => hg (Nat.le_of_ble_eq_true z))] at h
          cases h
          rw [decide_eq_false (by show ¬ (1 : Int) < (gcdL r 0 : Int); omega)]
          rfl
      have ei : initE [R.d (.tup (p.map D.int)), R.d (.tup (q.map D.int))] 6 = [some (.d (.tup (p.map D.int))), some (.d (.tup (q.map D.int))), none, none, none, none, none, none] := rfl
      simp only [m_remainder, h_remainder, FL.runF, ei, FL.hSeq, e1, FL.hWhile, hl, e3, FL.hRet, e4]
      rfl
    · cases h
theorem le_remainder (rs : List R) (z : R) (h : M_remainder rs = some z) : m_remainder rs = some z := by
  unfold M_remainder at h
  split at h
  · split at h
    · rename_i p hp
      split at h
      · rename_i q hq
        obtain ⟨r, hT, rfl⟩ := outPo_inv h
        rw [intsOf_ok hp, intsOf_ok hq]
        exact rem_m hT
      · cases h
    · cases h
  · cases h
theorem rem_ok {p q r : List Int} (h : T_rem p q = some r) : M_remainder [.d (.tup (p.map D.int)), .d (.tup (q.map D.int))] = some (.d (.tup (r.map D.int))) := by
  show (match intsOf (p.map D.int) with
    | some p => match intsOf (q.map D.int) with
      | some q => outPo (T_rem p q)
      | none => none
    | none => none) = _
  rw [intsOf_map, intsOf_map]
  show outPo (T_rem p q) = _
  rw [h]
  exact outP_eq r

def h_common : Ev → Option Out := (hSeq (hWhile 20 (gT (g2 fNe (gV 1) (gTup gNil))) (hPar2 0 1 (gV 1) (gCall M_primitive (FL.gCons (gCall M_remainder (FL.gCons (gV 0) (FL.gCons (gV 1) gNil))) gNil))))
  (hRet (gCall M_primitive (FL.gCons (gV 0) gNil))))
def m_common : List R → Option R := runF 2 0 h_common
def comL : Nat → List Int → List Int → Option (List Int)
  | 0, _, _ => none
  | f + 1, p, q => match q with
    | [] => some p
    | b :: q' => match T_rem p (b :: q') with
      | some r => match T_prim r with
        | some s => comL f (b :: q') s
        | none => none
      | none => none
def T_com (p q : List Int) : Option (List Int) := match comL 20 p q with
  | some r => T_prim r
  | none => none
def M_common : List R → Option R
  | [.d (.tup ds), .d (.tup es)] => match intsOf ds with
    | some p => match intsOf es with
      | some q => outPo (T_com p q)
      | none => none
    | none => none
  | _ => none
theorem fNe_nil (p : List Int) : fNe (.d (.tup (p.map D.int))) (.d (.tup [])) = some (.d (.bl (match p with | [] => false | _ :: _ => true))) := by
  have h1 := fEq_nil p
  unfold fEq at h1
  unfold fNe
  cases e : eqA (.d (.tup (p.map D.int))) (.d (.tup [])) with
  | none => rw [e] at h1; cases h1
  | some b =>
    rw [e] at h1
    cases p with
    | nil =>
      cases h1
      rfl
    | cons a p =>
      cases h1
      rfl
theorem com_loop : ∀ (f : Nat) (p q r : List Int), comL f p q = some r → ∃ w, whileF (gT (g2 fNe (gV 1) (gTup FL.gNil))) (hPar2 0 1 (gV 1) (gCall M_primitive (FL.gCons (gCall M_remainder (FL.gCons (gV 0) (FL.gCons (gV 1) FL.gNil))) FL.gNil))) f [some (.d (.tup (p.map D.int))), some (.d (.tup (q.map D.int)))] = some (.nx [some (.d (.tup (r.map D.int))), w])
  | 0, p, q, r, h => by cases h
  | f + 1, p, q, r, h => by
    have hc : ∀ t : List Int, gT (g2 fNe (gV 1) (gTup FL.gNil)) [some (.d (.tup (p.map D.int))), some (.d (.tup (t.map D.int)))] = some (match t with | [] => false | _ :: _ => true) := fun t => by
      unfold gT
      rw [g2_of (x := .d (.tup (t.map D.int))) (y := .d (.tup [])) rfl rfl, fNe_nil]
    rw [whileF_succ, hc]
    cases q with
    | nil =>
      have h' : some p = some r := h
      cases h'
      exact ⟨_, rfl⟩
    | cons b q =>
      have h' : (match T_rem p (b :: q) with
        | some r => match T_prim r with
          | some s => comL f (b :: q) s
          | none => none
        | none => none) = some r := h
      split at h'
      · rename_i r1 h1
        split at h'
        · rename_i s hs
          obtain ⟨w, ih⟩ := com_loop f (b :: q) s r h'
          refine ⟨w, ?_⟩
          have e1 : gCall M_remainder (FL.gCons (gV 0) (FL.gCons (gV 1) FL.gNil)) [some (.d (.tup (p.map D.int))), some (.d (.tup ((b :: q).map D.int)))] = some (.d (.tup (r1.map D.int))) := by
            rw [call2_of (x := .d (.tup (p.map D.int))) (y := .d (.tup ((b :: q).map D.int))) rfl rfl]
            exact rem_ok h1
          have e2 : gCall M_primitive (FL.gCons (gCall M_remainder (FL.gCons (gV 0) (FL.gCons (gV 1) FL.gNil))) FL.gNil) [some (.d (.tup (p.map D.int))), some (.d (.tup ((b :: q).map D.int)))] = some (.d (.tup (s.map D.int))) := by
            rw [call1_of e1]
            exact prim_ok hs
          have e3 : hPar2 0 1 (gV 1) (gCall M_primitive (FL.gCons (gCall M_remainder (FL.gCons (gV 0) (FL.gCons (gV 1) FL.gNil))) FL.gNil)) [some (.d (.tup (p.map D.int))), some (.d (.tup ((b :: q).map D.int)))] = some (.nx [some (.d (.tup ((b :: q).map D.int))), some (.d (.tup (s.map D.int)))]) := by
            unfold hPar2
            rw [e2]
            rfl
          show (match hPar2 0 1 _ _ _ with
            | some (.nx ρ') => whileF _ _ f ρ'
            | some (.ct ρ') => whileF _ _ f ρ'
            | some (.bk ρ') => some (Out.nx ρ')
            | some (.rt r) => some (Out.rt r)
            | none => none) = _
          rw [e3]
          exact ih
        · cases h'
      · cases h'
theorem com_m {p q r : List Int} (h : T_com p q = some r) : m_common [.d (.tup (p.map D.int)), .d (.tup (q.map D.int))] = some (.d (.tup (r.map D.int))) := by
  unfold T_com at h
  split at h
  · rename_i s hs
    obtain ⟨w, hl⟩ := com_loop 20 p q s hs
    have ei : initE [R.d (.tup (p.map D.int)), R.d (.tup (q.map D.int))] 0 = [some (.d (.tup (p.map D.int))), some (.d (.tup (q.map D.int)))] := rfl
    have e1 : gCall M_primitive (FL.gCons (gV 0) FL.gNil) [some (.d (.tup (s.map D.int))), w] = some (.d (.tup (r.map D.int))) := by
      rw [call1_of (x := .d (.tup (s.map D.int))) rfl]
      exact prim_ok h
    simp only [m_common, h_common, FL.runF, ei, FL.hSeq, FL.hWhile, hl, FL.hRet, e1]
    rfl
  · cases h
theorem le_common (rs : List R) (z : R) (h : M_common rs = some z) : m_common rs = some z := by
  unfold M_common at h
  split at h
  · split at h
    · rename_i p hp
      split at h
      · rename_i q hq
        obtain ⟨r, hT, rfl⟩ := outPo_inv h
        rw [intsOf_ok hp, intsOf_ok hq]
        exact com_m hT
      · cases h
    · cases h
  · cases h
end FT
end
end -- GH5
section -- GM
set_option Elab.async false
set_option linter.all false
set_option maxRecDepth 100000
/-! the mirrors, printed from the text -/
noncomputable section
namespace FT
open PySem PySem.Spec PyProof.Rows L2 FL
def cMOST : D := .int (10 ^ 60)
def cZERO : D := .tup [.tup [], .tup [.int 1]]
def h_is_int : Ev → Option Out := (hRet (gAndV (gIs "int" (gV 0)) (gNotV (gIs "bool" (gV 0)))))
def m_is_int : List R → Option R := runF 1 0 h_is_int
def h_is_in : Ev → Option Out := (hRet (gAndV (gCall m_is_int (FL.gCons (gV 0) gNil)) (gChain fLe fLe (gV 1) (gV 0) (gV 2))))
def m_is_in : List R → Option R := runF 3 0 h_is_in
def h_is_less : Ev → Option Out := (hRet (g2 fLt (g2 fMul (g2 fIx (gV 0) (gC (.int 0))) (g2 fIx (gV 1) (gC (.int 1)))) (g2 fMul (g2 fIx (gV 1) (gC (.int 0))) (g2 fIx (gV 0) (gC (.int 1))))))
def m_is_less : List R → Option R := runF 2 0 h_is_less
def h_is_poly : Ev → Option Out := (hSeq (hIf (gOr (gNot (gT (gIs "tuple" (gV 0)))) (gT (g2 fGt (gCall mLen (FL.gCons (gV 0) gNil)) (g2 fAdd (gC (.int 12)) (gC (.int 1)))))) (hRet (gC (.bl false))) hNil)
  (hSeq (hIf (gNot (gT (gCall mAll (FL.gCons (gComp (gItT (gV 0)) (.one 1) cYes (gCall m_is_in (FL.gCons (gV 1) (FL.gCons (g1 fNeg (gC cMOST)) (FL.gCons (gC cMOST) gNil)))) [1]) gNil)))) (hRet (gC (.bl false))) hNil)
  (hRet (gOrV (g2 fEq (gV 0) (gTup gNil)) (g2 fNe (g2 fIx (gV 0) (g1 fNeg (gC (.int 1)))) (gC (.int 0)))))))
def m_is_poly : List R → Option R := runF 1 1 h_is_poly
def h_need_poly : Ev → Option Out := (hIf (gNot (gT (gCall m_is_poly (FL.gCons (gV 0) gNil)))) hNever hNil)
def m_need_poly : List R → Option R := runF 1 0 h_need_poly
def h_poly_times : Ev → Option Out := (hSeq (hIf (gOr (gT (g2 fEq (gV 0) (gTup gNil))) (gT (g2 fEq (gV 1) (gTup gNil)))) (hRet (gTup gNil)) hNil)
  (hSeq (hSet 2 (g2 fMul (gLst (FL.gCons (gC (.int 0)) gNil)) (g2 fSub (g2 fAdd (gCall mLen (FL.gCons (gV 0) gNil)) (gCall mLen (FL.gCons (gV 1) gNil))) (gC (.int 1)))))
  (hSeq (hFor (.two 3 4) (gEnum (FL.gCons (gV 0) gNil)) (hFor (.two 5 6) (gEnum (FL.gCons (gV 1) gNil)) (hAugIt 2 (fI fun i j => D.int (i + j)) (g2 fAdd (gV 3) (gV 5)) (g2 fMul (gV 4) (gV 6)))))
  (hRet (gCall M_trimmed (FL.gCons (gV 2) gNil))))))
def m_poly_times : List R → Option R := runF 2 5 h_poly_times
def h_quotient : Ev → Option Out := (hSeq (hPar2 2 3 (gCall mList (FL.gCons (gV 0) gNil)) (g2 fMul (gLst (FL.gCons (gC (.int 0)) gNil)) (gCall mMax (FL.gCons (gC (.int 0)) (FL.gCons (g2 fAdd (g2 fSub (gCall mLen (FL.gCons (gV 0) gNil)) (gCall mLen (FL.gCons (gV 1) gNil))) (gC (.int 1))) gNil)))))
  (hSeq (hFor (.one 4) (gRngD (FL.gCons (g2 fSub (gCall mLen (FL.gCons (gV 3) gNil)) (gC (.int 1))) (FL.gCons (g1 fNeg (gC (.int 1))) (FL.gCons (g1 fNeg (gC (.int 1))) gNil)))) (hSeq (hSetIt 3 (gV 4) (g2 fDiv (g2 fIx (gV 2) (g2 fSub (g2 fAdd (gV 4) (gCall mLen (FL.gCons (gV 1) gNil))) (gC (.int 1)))) (g2 fIx (gV 1) (g1 fNeg (gC (.int 1))))))
  (hFor (.two 5 6) (gEnum (FL.gCons (gV 1) gNil)) (hAugIt 2 (fI fun i j => D.int (i - j)) (g2 fAdd (gV 4) (gV 5)) (g2 fMul (g2 fIx (gV 3) (gV 4)) (gV 6))))))
  (hRet (gCall M_trimmed (FL.gCons (gV 3) gNil)))))
def m_quotient : List R → Option R := runF 2 5 h_quotient
def h_flipped : Ev → Option Out := (hRet (gCall mTuple (FL.gCons (gComp (gEnum (FL.gCons (gV 0) gNil)) (.two 1 2) cYes (gIf (gT (g2 fEq (g2 fMod (gV 1) (gC (.int 2))) (gC (.int 0)))) (gV 2) (g1 fNeg (gV 2))) [1, 2]) gNil)))
def m_flipped : List R → Option R := runF 1 2 h_flipped
def h_even_part : Ev → Option Out := (hRet (gCall M_trimmed (FL.gCons (gStep (gV 0) gPart0 gPart0 (gPart (gC (.int 2)))) gNil)))
def m_even_part : List R → Option R := runF 1 0 h_even_part
def h_odd_part : Ev → Option Out := (hRet (gCall M_trimmed (FL.gCons (gStep (gV 0) (gPart (gC (.int 1))) gPart0 (gPart (gC (.int 2)))) gNil)))
def m_odd_part : List R → Option R := runF 1 0 h_odd_part
def h_ordered : Ev → Option Out := (hSeq (hSet 1 (gC (.int 0)))
  (hSeq (hWhile 20 (gT (g2 fEq (g2 fIx (gV 0) (gV 1)) (gC (.int 0)))) (hAug 1 (fI fun i j => D.int (i + j)) (gC (.int 1))))
  (hRet (gV 1))))
def m_ordered : List R → Option R := runF 1 1 h_ordered
def h_made : Ev → Option Out := (hSeq (hIf (gT (g2 fEq (gV 0) (gTup gNil))) (hRet (gC cZERO)) hNil)
  (hSeq (hSet 2 (gCall M_common (FL.gCons (gV 0) (FL.gCons (gV 1) gNil))))
  (hSeq (hPar2 0 1 (gCall m_quotient (FL.gCons (gV 0) (FL.gCons (gV 2) gNil))) (gCall m_quotient (FL.gCons (gV 1) (FL.gCons (gV 2) gNil))))
  (hSeq (hSet 3 (gCall mGcd (FL.gCons (gCall M_content (FL.gCons (gV 0) gNil)) (FL.gCons (gCall M_content (FL.gCons (gV 1) gNil)) gNil))))
  (hSeq (hIf (gT (g2 fLt (g2 fIx (gV 1) (g1 fNeg (gC (.int 1)))) (gC (.int 0)))) (hSet 3 (g1 fNeg (gV 3))) hNil)
  (hRet (gTup (FL.gCons (gCall mTuple (FL.gCons (gComp (gItT (gV 0)) (.one 4) cYes (g2 fDiv (gV 4) (gV 3)) [4]) gNil)) (FL.gCons (gCall mTuple (FL.gCons (gComp (gItT (gV 1)) (.one 4) cYes (g2 fDiv (gV 4) (gV 3)) [4]) gNil)) gNil)))))))))
def m_made : List R → Option R := runF 2 3 h_made
def h_is_function : Ev → Option Out := (hSeq (hIf (gOr (gNot (gT (gIs "tuple" (gV 0)))) (gOr (gT (g2 fNe (gCall mLen (FL.gCons (gV 0) gNil)) (gC (.int 2)))) (gOr (gNot (gT (gCall m_is_poly (FL.gCons (g2 fIx (gV 0) (gC (.int 0))) gNil)))) (gNot (gT (gCall m_is_poly (FL.gCons (g2 fIx (gV 0) (gC (.int 1))) gNil))))))) (hRet (gC (.bl false))) hNil)
  (hRet (gAndV (g2 fNe (g2 fIx (gV 0) (gC (.int 1))) (gTup gNil)) (g2 fEq (gCall m_made (FL.gCons (g2 fIx (gV 0) (gC (.int 0))) (FL.gCons (g2 fIx (gV 0) (gC (.int 1))) gNil))) (gV 0)))))
def m_is_function : List R → Option R := runF 1 0 h_is_function
def h_need_function : Ev → Option Out := (hIf (gNot (gT (gCall m_is_function (FL.gCons (gV 0) gNil)))) hNever hNil)
def m_need_function : List R → Option R := runF 1 0 h_need_function
def h_function : Ev → Option Out := (hSeq (hExpr (gCall m_need_poly (FL.gCons (gV 0) gNil)))
  (hSeq (hExpr (gCall m_need_poly (FL.gCons (gV 1) gNil)))
  (hSeq (hIf (gT (g2 fEq (gV 1) (gTup gNil))) hNever hNil)
  (hRet (gCall m_made (FL.gCons (gV 0) (FL.gCons (gV 1) gNil)))))))
def m_function : List R → Option R := runF 2 0 h_function
def h_chain_of : Ev → Option Out := (hSeq (hSet 1 (gLst (FL.gCons (gV 0) (FL.gCons (gCall M_derivative (FL.gCons (gV 0) gNil)) gNil))))
  (hSeq (hWhile 20 (gT (g2 fNe (g2 fIx (gV 1) (g1 fNeg (gC (.int 1)))) (gTup gNil))) (hAppend 1 (gCall M_scaled (FL.gCons (gCall M_remainder (FL.gCons (g2 fIx (gV 1) (g1 fNeg (gC (.int 2)))) (FL.gCons (g2 fIx (gV 1) (g1 fNeg (gC (.int 1)))) gNil))) (FL.gCons (g1 fNeg (gC (.int 1))) gNil)))))
  (hRet (gSl fSl (gV 1) gPart0 (gPart (g1 fNeg (gC (.int 1))))))))
def m_chain_of : List R → Option R := runF 1 1 h_chain_of
def h_changes : Ev → Option Out := (hSeq (hSet 1 (gComp (gItL (gV 0)) (.one 2) (gT (g2 fNe (gV 2) (gC (.int 0)))) (gV 2) [2]))
  (hRet (gCall mLen (FL.gCons (gComp (gRng1 (FL.gCons (g2 fSub (gCall mLen (FL.gCons (gV 1) gNil)) (gC (.int 1))) gNil)) (.one 3) (gT (g2 fLt (g2 fMul (g2 fIx (gV 1) (gV 3)) (g2 fIx (gV 1) (g2 fAdd (gV 3) (gC (.int 1))))) (gC (.int 0)))) (gV 3) [3]) gNil))))
def m_changes : List R → Option R := runF 1 3 h_changes
def h_sign_of : Ev → Option Out := (hRet (g2 fSub (g2 fGt (gV 0) (gC (.int 0))) (g2 fLt (gV 0) (gC (.int 0)))))
def m_sign_of : List R → Option R := runF 1 0 h_sign_of
def h_signs_at : Ev → Option Out := (hSeq (hIf (gT (g2 fNotN (gV 1) (gC .non))) (hRet (gComp (gItL (gV 0)) (.one 3) cYes (gCall m_sign_of (FL.gCons (g2 fIx (gCall M_value_of (FL.gCons (gV 3) (FL.gCons (gV 1) gNil))) (gC (.int 0))) gNil)) [3])) hNil)
  (hRet (gComp (gItL (gV 0)) (.one 3) cYes (g2 fMul (gCall m_sign_of (FL.gCons (g2 fIx (gV 3) (g1 fNeg (gC (.int 1)))) gNil)) (gIf (gOr (gT (g2 fGt (gV 2) (gC (.int 0)))) (gT (g2 fEq (g2 fMod (gCall mLen (FL.gCons (gV 3) gNil)) (gC (.int 2))) (gC (.int 1))))) (gC (.int 1)) (g1 fNeg (gC (.int 1))))) [3])))
def m_signs_at : List R → Option R := runF 3 1 h_signs_at
def h_roots_in : Ev → Option Out := (hSeq (hIf (gT (g2 fLt (gCall mLen (FL.gCons (gV 0) gNil)) (gC (.int 2)))) (hRet (gC (.int 0))) hNil)
  (hSeq (hSet 3 (gCall m_quotient (FL.gCons (gV 0) (FL.gCons (gCall M_common (FL.gCons (gV 0) (FL.gCons (gCall M_derivative (FL.gCons (gV 0) gNil)) gNil))) gNil))))
  (hSeq (hSet 4 (gCall m_chain_of (FL.gCons (gV 3) gNil)))
  (hRet (g2 fSub (gCall m_changes (FL.gCons (gCall m_signs_at (FL.gCons (gV 4) (FL.gCons (gV 1) (FL.gCons (g1 fNeg (gC (.int 1))) gNil)))) gNil)) (gCall m_changes (FL.gCons (gCall m_signs_at (FL.gCons (gV 4) (FL.gCons (gV 2) (FL.gCons (gC (.int 1)) gNil)))) gNil)))))))
def m_roots_in : List R → Option R := runF 3 2 h_roots_in
def h_less_lead : Ev → Option Out := (hSeq (hSet 3 (gIf (gT (gV 2)) (gTup (FL.gCons (gC (.int 0)) (gStar (gV 1) gNil))) (gV 1)))
  (hSeq (hSet 4 (gComp (gZipL (FL.gCons (gV 0) (FL.gCons (gV 3) gNil))) (.two 5 6) cYes (g2 fSub (g2 fMul (gV 5) (g2 fIx (gV 1) (g1 fNeg (gC (.int 1))))) (g2 fMul (gV 6) (g2 fIx (gV 0) (g1 fNeg (gC (.int 1)))))) [5, 6]))
  (hSeq (hIf (gT (g2 fLt (g2 fIx (gV 1) (g1 fNeg (gC (.int 1)))) (gC (.int 0)))) (hSet 4 (gComp (gItL (gV 4)) (.one 5) cYes (g1 fNeg (gV 5)) [5])) hNil)
  (hSeq (hWhile 20 (gAnd (gT (g2 fNe (gV 4) (gLst gNil))) (gT (g2 fEq (g2 fIx (gV 4) (g1 fNeg (gC (.int 1)))) (gC (.int 0))))) (hPop 4))
  (hRet (gCall mTuple (FL.gCons (gV 4) gNil)))))))
def m_less_lead : List R → Option R := runF 3 4 h_less_lead
def h_is_on_left : Ev → Option Out := (hSeq (hIf (gT (gCall mAny (FL.gCons (gComp (gItT (gV 0)) (.one 4) cYes (g2 fLe (g2 fMul (gV 4) (g2 fIx (gV 0) (g1 fNeg (gC (.int 1))))) (gC (.int 0))) [4]) gNil))) (hRet (gC (.bl false))) hNil)
  (hSeq (hAsg (.two 1 2) (gIf (gT (g2 fEq (g2 fMod (gCall mLen (FL.gCons (gV 0) gNil)) (gC (.int 2))) (gC (.int 1)))) (gTup (FL.gCons (gCall m_even_part (FL.gCons (gV 0) gNil)) (FL.gCons (gCall m_odd_part (FL.gCons (gV 0) gNil)) gNil))) (gTup (FL.gCons (gCall m_odd_part (FL.gCons (gV 0) gNil)) (FL.gCons (gCall m_even_part (FL.gCons (gV 0) gNil)) gNil)))))
  (hSeq (hSet 3 (g2 fEq (g2 fMod (gCall mLen (FL.gCons (gV 0) gNil)) (gC (.int 2))) (gC (.int 1))))
  (hSeq (hWhile 20 (gT (g2 fNe (gV 2) (gTup gNil))) (hSeq (hIf (gOr (gT (g2 fNe (gCall mLen (FL.gCons (gV 2) gNil)) (gIf (gT (gV 3)) (g2 fSub (gCall mLen (FL.gCons (gV 1) gNil)) (gC (.int 1))) (gCall mLen (FL.gCons (gV 1) gNil))))) (gT (g2 fLe (g2 fMul (g2 fIx (gV 1) (g1 fNeg (gC (.int 1)))) (g2 fIx (gV 2) (g1 fNeg (gC (.int 1))))) (gC (.int 0))))) (hRet (gC (.bl false))) hNil)
  (hPar3 1 2 3 (gV 2) (gCall m_less_lead (FL.gCons (gV 1) (FL.gCons (gV 2) (FL.gCons (gV 3) gNil)))) (gNotV (gV 3)))))
  (hRet (g2 fEq (gCall mLen (FL.gCons (gV 1) gNil)) (gC (.int 1))))))))
def m_is_on_left : List R → Option R := runF 1 4 h_is_on_left
def h_odd_roots : Ev → Option Out := (hSeq (hPar2 1 2 (gTup (FL.gCons (gC (.int 1)) gNil)) (gV 0))
  (hSeq (hWhile 20 (gT (g2 fGt (gCall mLen (FL.gCons (gV 2) gNil)) (gC (.int 1)))) (hSeq (hSet 3 (gCall M_common (FL.gCons (gV 2) (FL.gCons (gCall M_derivative (FL.gCons (gV 2) gNil)) gNil))))
  (hSeq (hSet 4 (gCall m_quotient (FL.gCons (gV 2) (FL.gCons (gV 3) gNil))))
  (hSeq (hSet 5 (gCall M_common (FL.gCons (gV 4) (FL.gCons (gV 3) gNil))))
  (hSeq (hSet 1 (gCall m_poly_times (FL.gCons (gV 1) (FL.gCons (gCall m_quotient (FL.gCons (gV 4) (FL.gCons (gV 5) gNil))) gNil))))
  (hSet 2 (gCall m_quotient (FL.gCons (gV 3) (FL.gCons (gV 5) gNil)))))))))
  (hRet (gV 1))))
def m_odd_roots : List R → Option R := runF 1 5 h_odd_roots
def h_is_at_least_zero : Ev → Option Out := (hSeq (hIf (gT (g2 fEq (gV 0) (gTup gNil))) (hRet (gC (.bl true))) hNil)
  (hSeq (hIf (gOr (gT (g2 fLt (g2 fIx (gV 0) (g1 fNeg (gC (.int 1)))) (gC (.int 0)))) (gT (g2 fLt (g2 fIx (gV 0) (gCall m_ordered (FL.gCons (gV 0) gNil))) (gC (.int 0))))) (hRet (gC (.bl false))) hNil)
  (hRet (g2 fEq (gCall m_roots_in (FL.gCons (gCall m_odd_roots (FL.gCons (gSl fSl (gV 0) (gPart (gCall m_ordered (FL.gCons (gV 0) gNil))) gPart0) gNil)) (FL.gCons (gTup (FL.gCons (gC (.int 0)) (FL.gCons (gC (.int 1)) gNil))) (FL.gCons (gC .non) gNil)))) (gC (.int 0))))))
def m_is_at_least_zero : List R → Option R := runF 1 0 h_is_at_least_zero
def h_alternating : Ev → Option Out := (hRet (gCall m_flipped (FL.gCons (gV 0) gNil)))
def m_alternating : List R → Option R := runF 1 0 h_alternating
def h_real_top : Ev → Option Out := (hSeq (hSet 2 (gCall m_poly_times (FL.gCons (gCall m_even_part (FL.gCons (gV 0) gNil)) (FL.gCons (gCall m_even_part (FL.gCons (gV 1) gNil)) gNil))))
  (hSeq (hSet 3 (gCall m_poly_times (FL.gCons (gTup (FL.gCons (gC (.int 0)) (gStar (gCall m_odd_part (FL.gCons (gV 0) gNil)) gNil))) (FL.gCons (gTup (FL.gCons (gC (.int 0)) (gStar (gCall m_odd_part (FL.gCons (gV 1) gNil)) gNil))) gNil))))
  (hSeq (hSet 3 (gSl fSl (gV 3) (gPart (gC (.int 1))) gPart0))
  (hRet (gCall m_alternating (FL.gCons (gCall M_poly_minus (FL.gCons (gV 2) (FL.gCons (gV 3) gNil))) gNil))))))
def m_real_top : List R → Option R := runF 2 2 h_real_top
def h_is_good_on_axis : Ev → Option Out := (hRet (gCall m_is_at_least_zero (FL.gCons (gCall m_real_top (FL.gCons (g2 fIx (gV 0) (gC (.int 0))) (FL.gCons (g2 fIx (gV 0) (gC (.int 1))) gNil))) gNil)))
def m_is_good_on_axis : List R → Option R := runF 1 0 h_is_good_on_axis
def h_positive : Ev → Option Out := (hSeq (hSet 1 (gCall M_poly_plus (FL.gCons (g2 fIx (gV 0) (gC (.int 0))) (FL.gCons (g2 fIx (gV 0) (gC (.int 1))) gNil))))
  (hRet (gAndV (g2 fNe (gV 1) (gTup gNil)) (gAndV (gCall m_is_on_left (FL.gCons (gV 1) gNil)) (gCall m_is_good_on_axis (FL.gCons (gV 0) gNil))))))
def m_positive : List R → Option R := runF 1 1 h_positive
def h_axis_factor : Ev → Option Out := (hSeq (hSet 1 (gCall m_ordered (FL.gCons (gV 0) gNil)))
  (hSeq (hSet 2 (gSl fSl (gV 0) (gPart (gV 1)) gPart0))
  (hRet (gTup (FL.gCons (gV 1) (FL.gCons (gCall M_common (FL.gCons (gCall m_even_part (FL.gCons (gV 2) gNil)) (FL.gCons (gCall m_odd_part (FL.gCons (gV 2) gNil)) gNil))) gNil))))))
def m_axis_factor : List R → Option R := runF 1 2 h_axis_factor
def h_is_odd : Ev → Option Out := (hSeq (hSet 1 (gTup (FL.gCons (gCall m_flipped (FL.gCons (g2 fIx (gV 0) (gC (.int 0))) gNil)) (FL.gCons (gCall m_flipped (FL.gCons (g2 fIx (gV 0) (gC (.int 1))) gNil)) gNil))))
  (hRet (g2 fEq (gCall m_poly_times (FL.gCons (g2 fIx (gV 1) (gC (.int 0))) (FL.gCons (g2 fIx (gV 0) (gC (.int 1))) gNil))) (gCall M_scaled (FL.gCons (gCall m_poly_times (FL.gCons (g2 fIx (gV 0) (gC (.int 0))) (FL.gCons (g2 fIx (gV 1) (gC (.int 1))) gNil))) (FL.gCons (g1 fNeg (gC (.int 1))) gNil))))))
def m_is_odd : List R → Option R := runF 1 1 h_is_odd
def h_lossless : Ev → Option Out := (hRet (gOrV (g2 fEq (gV 0) (gC cZERO)) (gAndV (gCall m_is_odd (FL.gCons (gV 0) gNil)) (gCall m_positive (FL.gCons (gV 0) gNil)))))
def m_lossless : List R → Option R := runF 1 0 h_lossless
def h_is_lossless : Ev → Option Out := (hSeq (hExpr (gCall m_need_function (FL.gCons (gV 0) gNil)))
  (hRet (gCall m_lossless (FL.gCons (gV 0) gNil))))
def m_is_lossless : List R → Option R := runF 1 0 h_is_lossless
def h_far_of : Ev → Option Out := (hRet (gIf (gT (g2 fGt (gCall mLen (FL.gCons (g2 fIx (gV 0) (gC (.int 0))) gNil)) (gCall mLen (FL.gCons (g2 fIx (gV 0) (gC (.int 1))) gNil)))) (gCall M_ratio (FL.gCons (g2 fIx (g2 fIx (gV 0) (gC (.int 0))) (g1 fNeg (gC (.int 1)))) (FL.gCons (g2 fIx (g2 fIx (gV 0) (gC (.int 1))) (g1 fNeg (gC (.int 1)))) gNil))) (gTup (FL.gCons (gC (.int 0)) (FL.gCons (gC (.int 1)) gNil)))))
def m_far_of : List R → Option R := runF 1 0 h_far_of
def h_near_of : Ev → Option Out := (hRet (gIf (gT (g2 fEq (g2 fIx (g2 fIx (gV 0) (gC (.int 1))) (gC (.int 0))) (gC (.int 0)))) (gCall M_ratio (FL.gCons (g2 fIx (g2 fIx (gV 0) (gC (.int 0))) (gC (.int 0))) (FL.gCons (g2 fIx (g2 fIx (gV 0) (gC (.int 1))) (gC (.int 1))) gNil))) (gTup (FL.gCons (gC (.int 0)) (FL.gCons (gC (.int 1)) gNil)))))
def m_near_of : List R → Option R := runF 1 0 h_near_of
def h_root_in : Ev → Option Out := (hSeq (hSet 3 (gCall mAbs (FL.gCons (g2 fIx (gV 0) (g1 fNeg (gC (.int 1)))) gNil)))
  (hSeq (hWhile 100 (gT (g2 fGt (g2 fMul (g2 fMul (g2 fIx (gCall M_minus (FL.gCons (gV 2) (FL.gCons (gV 1) gNil))) (gC (.int 0))) (gC (.int 2))) (gV 3)) (g2 fIx (gCall M_minus (FL.gCons (gV 2) (FL.gCons (gV 1) gNil))) (gC (.int 1))))) (hSeq (hSet 4 (gCall M_ratio (FL.gCons (g2 fAdd (g2 fMul (g2 fIx (gV 1) (gC (.int 0))) (g2 fIx (gV 2) (gC (.int 1)))) (g2 fMul (g2 fIx (gV 2) (gC (.int 0))) (g2 fIx (gV 1) (gC (.int 1))))) (FL.gCons (g2 fMul (g2 fMul (gC (.int 2)) (g2 fIx (gV 1) (gC (.int 1)))) (g2 fIx (gV 2) (gC (.int 1)))) gNil))))
  (hIf (gT (g2 fEq (gCall m_roots_in (FL.gCons (gV 0) (FL.gCons (gV 1) (FL.gCons (gV 4) gNil)))) (gC (.int 1)))) (hSet 2 (gV 4)) (hSet 1 (gV 4)))))
  (hSeq (hSet 5 (gCall M_ratio (FL.gCons (g2 fDiv (g2 fMul (g2 fIx (gV 2) (gC (.int 0))) (gV 3)) (g2 fIx (gV 2) (gC (.int 1)))) (FL.gCons (gV 3) gNil))))
  (hSeq (hIf (gAnd (gT (gCall m_is_less (FL.gCons (gV 1) (FL.gCons (gV 5) gNil)))) (gT (g2 fEq (g2 fIx (gCall M_value_of (FL.gCons (gV 0) (FL.gCons (gV 5) gNil))) (gC (.int 0))) (gC (.int 0))))) (hRet (gV 5)) hNil)
  (hRet (gC .non))))))
def m_root_in : List R → Option R := runF 3 3 h_root_in
def h_rational_roots : Ev → Option Out := (hSeq (hPar2 1 2 (gTup (FL.gCons (gC (.int 1)) (FL.gCons (gC (.int 1)) gNil))) (gLst gNil))
  (hSeq (hWhile 100 (gT (g2 fGt (gCall m_roots_in (FL.gCons (gV 0) (FL.gCons (gV 1) (FL.gCons (gC .non) gNil)))) (gC (.int 0)))) (hSet 1 (gCall M_times (FL.gCons (gV 1) (FL.gCons (gTup (FL.gCons (gC (.int 2)) (FL.gCons (gC (.int 1)) gNil))) gNil)))))
  (hSeq (hSet 3 (gLst (FL.gCons (gTup (FL.gCons (gTup (FL.gCons (gC (.int 0)) (FL.gCons (gC (.int 1)) gNil))) (FL.gCons (gV 1) gNil))) gNil)))
  (hSeq (hWhile 100 (gT (g2 fNe (gV 3) (gLst gNil))) (hSeq (hPop0 3 (.two 4 1))
  (hSeq (hSet 5 (gCall m_roots_in (FL.gCons (gV 0) (FL.gCons (gV 4) (FL.gCons (gV 1) gNil)))))
  (hIf (gT (g2 fEq (gV 5) (gC (.int 1)))) (hAppend 2 (gCall m_root_in (FL.gCons (gV 0) (FL.gCons (gV 4) (FL.gCons (gV 1) gNil))))) (hIf (gT (g2 fGt (gV 5) (gC (.int 1)))) (hSeq (hSet 6 (gCall M_ratio (FL.gCons (g2 fAdd (g2 fMul (g2 fIx (gV 4) (gC (.int 0))) (g2 fIx (gV 1) (gC (.int 1)))) (g2 fMul (g2 fIx (gV 1) (gC (.int 0))) (g2 fIx (gV 4) (gC (.int 1))))) (FL.gCons (g2 fMul (g2 fMul (gC (.int 2)) (g2 fIx (gV 4) (gC (.int 1)))) (g2 fIx (gV 1) (gC (.int 1)))) gNil))))
  (hSet 3 (gLst (FL.gCons (gTup (FL.gCons (gV 4) (FL.gCons (gV 6) gNil))) (FL.gCons (gTup (FL.gCons (gV 6) (FL.gCons (gV 1) gNil))) (gStar (gV 3) gNil)))))) hNil)))))
  (hRet (gIf (gT (g2 fIn (gC .non) (gV 2))) (gC .non) (gV 2)))))))
def m_rational_roots : List R → Option R := runF 1 6 h_rational_roots
def h_limit_at : Ev → Option Out := (hSeq (hSet 2 (gTup (FL.gCons (g1 fNeg (g2 fIx (gV 1) (gC (.int 0)))) (FL.gCons (g2 fIx (gV 1) (gC (.int 1))) gNil))))
  (hSeq (hIf (gT (g2 fEq (g2 fIx (g2 fIx (gV 0) (gC (.int 0))) (gC (.int 0))) (gC (.int 0)))) (hSeq (hSet 3 (gCall M_value_of (FL.gCons (gStep (g2 fIx (gV 0) (gC (.int 0))) (gPart (gC (.int 1))) gPart0 (gPart (gC (.int 2)))) (FL.gCons (gV 2) gNil))))
  (hRet (gCall M_over (FL.gCons (gV 3) (FL.gCons (gCall M_value_of (FL.gCons (gCall M_derivative (FL.gCons (gStep (g2 fIx (gV 0) (gC (.int 1))) gPart0 gPart0 (gPart (gC (.int 2)))) gNil)) (FL.gCons (gV 2) gNil))) gNil))))) hNil)
  (hSeq (hPar2 3 4 (gCall M_value_of (FL.gCons (gStep (g2 fIx (gV 0) (gC (.int 0))) gPart0 gPart0 (gPart (gC (.int 2)))) (FL.gCons (gV 2) gNil))) (gCall M_value_of (FL.gCons (gCall M_derivative (FL.gCons (gStep (g2 fIx (gV 0) (gC (.int 1))) (gPart (gC (.int 1))) gPart0 (gPart (gC (.int 2)))) gNil)) (FL.gCons (gV 2) gNil))))
  (hRet (gCall M_over (FL.gCons (gV 3) (FL.gCons (gCall M_times (FL.gCons (gV 2) (FL.gCons (gV 4) gNil))) gNil)))))))
def m_limit_at : List R → Option R := runF 2 3 h_limit_at
def h_tank_parts : Ev → Option Out := (hSeq (hExpr (gCall m_need_function (FL.gCons (gV 0) gNil)))
  (hSeq (hIf (gNot (gT (gCall m_lossless (FL.gCons (gV 0) gNil)))) hNever hNil)
  (hSeq (hIf (gT (g2 fEq (gV 0) (gC cZERO))) (hRet (gTup (FL.gCons (gTup (FL.gCons (gC (.int 0)) (FL.gCons (gC (.int 1)) gNil))) (FL.gCons (gTup (FL.gCons (gC (.int 0)) (FL.gCons (gC (.int 1)) gNil))) (FL.gCons (gTup gNil) gNil))))) hNil)
  (hSeq (hAsg (.two 1 2) (gCall m_axis_factor (FL.gCons (g2 fIx (gV 0) (gC (.int 1))) gNil)))
  (hSeq (hSet 3 (gIf (gT (g2 fGt (gCall mLen (FL.gCons (gV 2) gNil)) (gC (.int 1)))) (gCall m_rational_roots (FL.gCons (gCall m_flipped (FL.gCons (gV 2) gNil)) gNil)) (gLst gNil)))
  (hSeq (hIf (gT (g2 fIsN (gV 3) (gC .non))) (hRet (gC .non)) hNil)
  (hSeq (hSet 4 (gComp (gItL (gV 3)) (.one 5) cYes (gTup (FL.gCons (gV 5) (FL.gCons (gCall m_limit_at (FL.gCons (gV 0) (FL.gCons (gV 5) gNil))) gNil))) [5]))
  (hRet (gTup (FL.gCons (gCall m_far_of (FL.gCons (gV 0) gNil)) (FL.gCons (gCall m_near_of (FL.gCons (gV 0) gNil)) (FL.gCons (gCall mTuple (FL.gCons (gV 4) gNil)) gNil))))))))))))
def m_tank_parts : List R → Option R := runF 1 5 h_tank_parts
def h_law_shared : Ev → Option Out := (hSeq (hPar2 0 1 (gCall mAbs (FL.gCons (gV 0) gNil)) (gCall mAbs (FL.gCons (gV 1) gNil)))
  (hSeq (hFor (.one 2) (gRng1 (FL.gCons (gC (.int 2000)) gNil)) (hSeq (hIf (gT (g2 fEq (gV 1) (gC (.int 0)))) hBrk hNil)
  (hPar2 0 1 (gV 1) (g2 fMod (gCall mInt (FL.gCons (gV 0) gNil)) (gV 1)))))
  (hRet (gV 0))))
def m_law_shared : List R → Option R := runF 2 1 h_law_shared
def h_law_ratio : Ev → Option Out := (hSeq (hSet 2 (gCall m_law_shared (FL.gCons (gV 0) (FL.gCons (gV 1) gNil))))
  (hSeq (hIf (gT (g2 fLt (gV 1) (gC (.int 0)))) (hSet 2 (g1 fNeg (gV 2))) hNil)
  (hRet (gTup (FL.gCons (g2 fDiv (gV 0) (gV 2)) (FL.gCons (g2 fDiv (gV 1) (gV 2)) gNil))))))
def m_law_ratio : List R → Option R := runF 2 1 h_law_ratio
def h_law_is_square : Ev → Option Out := (hRet (g2 fNe (gComp (gRng1 (FL.gCons (gC (.int 60)) gNil)) (.one 1) (gT (g2 fEq (g2 fMul (gV 1) (gV 1)) (gV 0))) (gV 1) [1]) (gLst gNil)))
def m_law_is_square : List R → Option R := runF 1 1 h_law_is_square
def h_lawR : Ev → Option Out := (hSeq (hSet 5 (gCall m_function (FL.gCons (gTup (FL.gCons (gC (.int 0)) (FL.gCons (gV 3) (FL.gCons (gC (.int 0)) (FL.gCons (g2 fMul (gC (.int 2)) (gV 2)) gNil))))) (FL.gCons (gTup (FL.gCons (gV 4) (FL.gCons (gC (.int 0)) (FL.gCons (gV 3) (FL.gCons (gC (.int 0)) (FL.gCons (gV 2) gNil)))))) gNil))))
  (hSeq (hIf (gT (g2 fLt (g2 fMul (gV 3) (gV 3)) (g2 fMul (g2 fMul (gC (.int 4)) (gV 2)) (gV 4)))) (hRet (g2 fIsB (gCall m_is_lossless (FL.gCons (gV 5) gNil)) (gC (.bl false)))) hNil)
  (hSeq (hIf (gT (g2 fEq (g2 fMul (gV 3) (gV 3)) (g2 fMul (g2 fMul (gC (.int 4)) (gV 2)) (gV 4)))) (hRet (g2 fEq (gCall m_tank_parts (FL.gCons (gV 5) gNil)) (gTup (FL.gCons (gTup (FL.gCons (gC (.int 0)) (FL.gCons (gC (.int 1)) gNil))) (FL.gCons (gTup (FL.gCons (gC (.int 0)) (FL.gCons (gC (.int 1)) gNil))) (FL.gCons (gTup (FL.gCons (gTup (FL.gCons (gCall m_law_ratio (FL.gCons (gV 3) (FL.gCons (g2 fMul (gC (.int 2)) (gV 2)) gNil))) (FL.gCons (gTup (FL.gCons (gC (.int 2)) (FL.gCons (gC (.int 1)) gNil))) gNil))) gNil)) gNil)))))) hNil)
  (hSeq (hAsg (.two 6 7) (gTup (FL.gCons (gCall m_tank_parts (FL.gCons (gV 5) gNil)) (FL.gCons (g2 fSub (g2 fMul (gV 3) (gV 3)) (g2 fMul (g2 fMul (gC (.int 4)) (gV 2)) (gV 4))) gNil))))
  (hSeq (hIf (gOr (gT (g2 fNotB (gCall m_is_lossless (FL.gCons (gV 5) gNil)) (gC (.bl true)))) (gT (g2 fNe (g2 fNotN (gV 6) (gC .non)) (gCall m_law_is_square (FL.gCons (gV 7) gNil))))) (hRet (gC (.bl false))) hNil)
  (hSeq (hIf (gT (g2 fIsN (gV 6) (gC .non))) (hRet (gC (.bl true))) hNil)
  (hSeq (hSet 8 (g2 fIx (gComp (gRng1 (FL.gCons (gC (.int 60)) gNil)) (.one 8) (gT (g2 fEq (g2 fMul (gV 8) (gV 8)) (gV 7))) (gV 8) [8]) (gC (.int 0))))
  (hSeq (hSet 9 (gLst (FL.gCons (gTup (FL.gCons (gCall m_law_ratio (FL.gCons (g2 fSub (gV 3) (gV 8)) (FL.gCons (g2 fMul (gC (.int 2)) (gV 2)) gNil))) (FL.gCons (gTup (FL.gCons (gC (.int 1)) (FL.gCons (gC (.int 1)) gNil))) gNil))) (FL.gCons (gTup (FL.gCons (gCall m_law_ratio (FL.gCons (g2 fAdd (gV 3) (gV 8)) (FL.gCons (g2 fMul (gC (.int 2)) (gV 2)) gNil))) (FL.gCons (gTup (FL.gCons (gC (.int 1)) (FL.gCons (gC (.int 1)) gNil))) gNil))) gNil))))
  (hRet (g2 fEq (gV 6) (gTup (FL.gCons (gTup (FL.gCons (gC (.int 0)) (FL.gCons (gC (.int 1)) gNil))) (FL.gCons (gTup (FL.gCons (gC (.int 0)) (FL.gCons (gC (.int 1)) gNil))) (FL.gCons (gCall mTuple (FL.gCons (gV 9) gNil)) gNil))))))))))))))
end FT
end
end -- GM
section -- GT
set_option Elab.async false
set_option linter.all false
set_option maxRecDepth 100000
/-! the text by places -/
namespace FT
open PySem PySem.Spec PyProof.Rows L2 FL
def topS (i : Nat) : Stmt := PySem.Challenge.pw_coilnets_k51_whole_tanks_by_none.main.body.getD i (.Pass ⟨0, 0, 0, 0⟩)
abbrev s_is_int : Stmt := topS 9
abbrev N_is_int : List Str := ["value"]
theorem sc_is_int : FnScope N_is_int ["value"] (defScope s_is_int) := ⟨rfl, rfl, rfl, by decide +kernel, rfl, by decide +kernel, by decide +kernel⟩
abbrev s_is_in : Stmt := topS 10
abbrev N_is_in : List Str := ["value", "least", "most"]
theorem sc_is_in : FnScope N_is_in ["value", "least", "most"] (defScope s_is_in) := ⟨rfl, rfl, rfl, by decide +kernel, rfl, by decide +kernel, by decide +kernel⟩
abbrev s_ratio : Stmt := topS 11
abbrev N_ratio : List Str := ["top", "bottom", "shared"]
theorem sc_ratio : FnScope N_ratio ["top", "bottom"] (defScope s_ratio) := ⟨rfl, rfl, rfl, by decide +kernel, rfl, by decide +kernel, by decide +kernel⟩
abbrev s_plus : Stmt := topS 12
abbrev N_plus : List Str := ["one", "other"]
theorem sc_plus : FnScope N_plus ["one", "other"] (defScope s_plus) := ⟨rfl, rfl, rfl, by decide +kernel, rfl, by decide +kernel, by decide +kernel⟩
abbrev s_minus : Stmt := topS 13
abbrev N_minus : List Str := ["one", "other"]
theorem sc_minus : FnScope N_minus ["one", "other"] (defScope s_minus) := ⟨rfl, rfl, rfl, by decide +kernel, rfl, by decide +kernel, by decide +kernel⟩
abbrev s_times : Stmt := topS 14
abbrev N_times : List Str := ["one", "other"]
theorem sc_times : FnScope N_times ["one", "other"] (defScope s_times) := ⟨rfl, rfl, rfl, by decide +kernel, rfl, by decide +kernel, by decide +kernel⟩
abbrev s_over : Stmt := topS 15
abbrev N_over : List Str := ["one", "other"]
theorem sc_over : FnScope N_over ["one", "other"] (defScope s_over) := ⟨rfl, rfl, rfl, by decide +kernel, rfl, by decide +kernel, by decide +kernel⟩
abbrev s_is_less : Stmt := topS 16
abbrev N_is_less : List Str := ["one", "other"]
theorem sc_is_less : FnScope N_is_less ["one", "other"] (defScope s_is_less) := ⟨rfl, rfl, rfl, by decide +kernel, rfl, by decide +kernel, by decide +kernel⟩
abbrev s_is_poly : Stmt := topS 19
abbrev N_is_poly : List Str := ["value", "one"]
theorem sc_is_poly : FnScope N_is_poly ["value"] (defScope s_is_poly) := ⟨rfl, rfl, rfl, by decide +kernel, rfl, by decide +kernel, by decide +kernel⟩
abbrev s_need_poly : Stmt := topS 20
abbrev N_need_poly : List Str := ["value"]
theorem sc_need_poly : FnScope N_need_poly ["value"] (defScope s_need_poly) := ⟨rfl, rfl, rfl, by decide +kernel, rfl, by decide +kernel, by decide +kernel⟩
abbrev s_trimmed : Stmt := topS 21
abbrev N_trimmed : List Str := ["some", "many"]
theorem sc_trimmed : FnScope N_trimmed ["some"] (defScope s_trimmed) := ⟨rfl, rfl, rfl, by decide +kernel, rfl, by decide +kernel, by decide +kernel⟩
abbrev s_poly_plus : Stmt := topS 22
abbrev N_poly_plus : List Str := ["one", "other", "many", "first", "second", "a", "b"]
theorem sc_poly_plus : FnScope N_poly_plus ["one", "other"] (defScope s_poly_plus) := ⟨rfl, rfl, rfl, by decide +kernel, rfl, by decide +kernel, by decide +kernel⟩
abbrev s_scaled : Stmt := topS 23
abbrev N_scaled : List Str := ["one", "factor", "a"]
theorem sc_scaled : FnScope N_scaled ["one", "factor"] (defScope s_scaled) := ⟨rfl, rfl, rfl, by decide +kernel, rfl, by decide +kernel, by decide +kernel⟩
abbrev s_poly_minus : Stmt := topS 24
abbrev N_poly_minus : List Str := ["one", "other"]
theorem sc_poly_minus : FnScope N_poly_minus ["one", "other"] (defScope s_poly_minus) := ⟨rfl, rfl, rfl, by decide +kernel, rfl, by decide +kernel, by decide +kernel⟩
abbrev s_poly_times : Stmt := topS 25
abbrev N_poly_times : List Str := ["one", "other", "found", "at", "a", "place", "b"]
theorem sc_poly_times : FnScope N_poly_times ["one", "other"] (defScope s_poly_times) := ⟨rfl, rfl, rfl, by decide +kernel, rfl, by decide +kernel, by decide +kernel⟩
abbrev s_content : Stmt := topS 26
abbrev N_content : List Str := ["one", "found", "a"]
theorem sc_content : FnScope N_content ["one"] (defScope s_content) := ⟨rfl, rfl, rfl, by decide +kernel, rfl, by decide +kernel, by decide +kernel⟩
abbrev s_primitive : Stmt := topS 27
abbrev N_primitive : List Str := ["one", "shared", "a"]
theorem sc_primitive : FnScope N_primitive ["one"] (defScope s_primitive) := ⟨rfl, rfl, rfl, by decide +kernel, rfl, by decide +kernel, by decide +kernel⟩
abbrev s_remainder : Stmt := topS 28
abbrev N_remainder : List Str := ["one", "other", "rest", "lead", "shift", "part", "shared", "a"]
theorem sc_remainder : FnScope N_remainder ["one", "other"] (defScope s_remainder) := ⟨rfl, rfl, rfl, by decide +kernel, rfl, by decide +kernel, by decide +kernel⟩
abbrev s_common : Stmt := topS 29
abbrev N_common : List Str := ["one", "other"]
theorem sc_common : FnScope N_common ["one", "other"] (defScope s_common) := ⟨rfl, rfl, rfl, by decide +kernel, rfl, by decide +kernel, by decide +kernel⟩
abbrev s_quotient : Stmt := topS 30
abbrev N_quotient : List Str := ["one", "other", "rest", "found", "at", "place", "b"]
theorem sc_quotient : FnScope N_quotient ["one", "other"] (defScope s_quotient) := ⟨rfl, rfl, rfl, by decide +kernel, rfl, by decide +kernel, by decide +kernel⟩
abbrev s_derivative : Stmt := topS 31
abbrev N_derivative : List Str := ["one", "at", "a"]
theorem sc_derivative : FnScope N_derivative ["one"] (defScope s_derivative) := ⟨rfl, rfl, rfl, by decide +kernel, rfl, by decide +kernel, by decide +kernel⟩
abbrev s_flipped : Stmt := topS 32
abbrev N_flipped : List Str := ["one", "at", "a"]
theorem sc_flipped : FnScope N_flipped ["one"] (defScope s_flipped) := ⟨rfl, rfl, rfl, by decide +kernel, rfl, by decide +kernel, by decide +kernel⟩
abbrev s_value_of : Stmt := topS 33
abbrev N_value_of : List Str := ["one", "told", "found", "a"]
theorem sc_value_of : FnScope N_value_of ["one", "told"] (defScope s_value_of) := ⟨rfl, rfl, rfl, by decide +kernel, rfl, by decide +kernel, by decide +kernel⟩
abbrev s_even_part : Stmt := topS 34
abbrev N_even_part : List Str := ["one"]
theorem sc_even_part : FnScope N_even_part ["one"] (defScope s_even_part) := ⟨rfl, rfl, rfl, by decide +kernel, rfl, by decide +kernel, by decide +kernel⟩
abbrev s_odd_part : Stmt := topS 35
abbrev N_odd_part : List Str := ["one"]
theorem sc_odd_part : FnScope N_odd_part ["one"] (defScope s_odd_part) := ⟨rfl, rfl, rfl, by decide +kernel, rfl, by decide +kernel, by decide +kernel⟩
abbrev s_ordered : Stmt := topS 36
abbrev N_ordered : List Str := ["one", "at"]
theorem sc_ordered : FnScope N_ordered ["one"] (defScope s_ordered) := ⟨rfl, rfl, rfl, by decide +kernel, rfl, by decide +kernel, by decide +kernel⟩
abbrev s_made : Stmt := topS 39
abbrev N_made : List Str := ["top", "bottom", "shared", "factor", "a"]
theorem sc_made : FnScope N_made ["top", "bottom"] (defScope s_made) := ⟨rfl, rfl, rfl, by decide +kernel, rfl, by decide +kernel, by decide +kernel⟩
abbrev s_is_function : Stmt := topS 40
abbrev N_is_function : List Str := ["value"]
theorem sc_is_function : FnScope N_is_function ["value"] (defScope s_is_function) := ⟨rfl, rfl, rfl, by decide +kernel, rfl, by decide +kernel, by decide +kernel⟩
abbrev s_need_function : Stmt := topS 41
abbrev N_need_function : List Str := ["value"]
theorem sc_need_function : FnScope N_need_function ["value"] (defScope s_need_function) := ⟨rfl, rfl, rfl, by decide +kernel, rfl, by decide +kernel, by decide +kernel⟩
abbrev s_function : Stmt := topS 42
abbrev N_function : List Str := ["top", "bottom"]
theorem sc_function : FnScope N_function ["top", "bottom"] (defScope s_function) := ⟨rfl, rfl, rfl, by decide +kernel, rfl, by decide +kernel, by decide +kernel⟩
abbrev s_chain_of : Stmt := topS 44
abbrev N_chain_of : List Str := ["one", "found"]
theorem sc_chain_of : FnScope N_chain_of ["one"] (defScope s_chain_of) := ⟨rfl, rfl, rfl, by decide +kernel, rfl, by decide +kernel, by decide +kernel⟩
abbrev s_changes : Stmt := topS 45
abbrev N_changes : List Str := ["signs", "rest", "sign", "at"]
theorem sc_changes : FnScope N_changes ["signs"] (defScope s_changes) := ⟨rfl, rfl, rfl, by decide +kernel, rfl, by decide +kernel, by decide +kernel⟩
abbrev s_sign_of : Stmt := topS 46
abbrev N_sign_of : List Str := ["number"]
theorem sc_sign_of : FnScope N_sign_of ["number"] (defScope s_sign_of) := ⟨rfl, rfl, rfl, by decide +kernel, rfl, by decide +kernel, by decide +kernel⟩
abbrev s_signs_at : Stmt := topS 47
abbrev N_signs_at : List Str := ["chain", "told", "side", "one"]
theorem sc_signs_at : FnScope N_signs_at ["chain", "told", "side"] (defScope s_signs_at) := ⟨rfl, rfl, rfl, by decide +kernel, rfl, by decide +kernel, by decide +kernel⟩
abbrev s_roots_in : Stmt := topS 48
abbrev N_roots_in : List Str := ["one", "low", "high", "plain", "chain"]
theorem sc_roots_in : FnScope N_roots_in ["one", "low", "high"] (defScope s_roots_in) := ⟨rfl, rfl, rfl, by decide +kernel, rfl, by decide +kernel, by decide +kernel⟩
abbrev s_is_on_left : Stmt := topS 49
abbrev N_is_on_left : List Str := ["one", "first", "second", "shifted", "a"]
theorem sc_is_on_left : FnScope N_is_on_left ["one"] (defScope s_is_on_left) := ⟨rfl, rfl, rfl, by decide +kernel, rfl, by decide +kernel, by decide +kernel⟩
abbrev s_less_lead : Stmt := topS 50
abbrev N_less_lead : List Str := ["first", "second", "shifted", "moved", "rest", "a", "b"]
theorem sc_less_lead : FnScope N_less_lead ["first", "second", "shifted"] (defScope s_less_lead) := ⟨rfl, rfl, rfl, by decide +kernel, rfl, by decide +kernel, by decide +kernel⟩
abbrev s_odd_roots : Stmt := topS 51
abbrev N_odd_roots : List Str := ["one", "found", "rest", "shared", "plain", "again"]
theorem sc_odd_roots : FnScope N_odd_roots ["one"] (defScope s_odd_roots) := ⟨rfl, rfl, rfl, by decide +kernel, rfl, by decide +kernel, by decide +kernel⟩
abbrev s_is_at_least_zero : Stmt := topS 52
abbrev N_is_at_least_zero : List Str := ["one"]
theorem sc_is_at_least_zero : FnScope N_is_at_least_zero ["one"] (defScope s_is_at_least_zero) := ⟨rfl, rfl, rfl, by decide +kernel, rfl, by decide +kernel, by decide +kernel⟩
abbrev s_alternating : Stmt := topS 54
abbrev N_alternating : List Str := ["one"]
theorem sc_alternating : FnScope N_alternating ["one"] (defScope s_alternating) := ⟨rfl, rfl, rfl, by decide +kernel, rfl, by decide +kernel, by decide +kernel⟩
abbrev s_real_top : Stmt := topS 55
abbrev N_real_top : List Str := ["top", "bottom", "even", "odd"]
theorem sc_real_top : FnScope N_real_top ["top", "bottom"] (defScope s_real_top) := ⟨rfl, rfl, rfl, by decide +kernel, rfl, by decide +kernel, by decide +kernel⟩
abbrev s_is_good_on_axis : Stmt := topS 56
abbrev N_is_good_on_axis : List Str := ["one"]
theorem sc_is_good_on_axis : FnScope N_is_good_on_axis ["one"] (defScope s_is_good_on_axis) := ⟨rfl, rfl, rfl, by decide +kernel, rfl, by decide +kernel, by decide +kernel⟩
abbrev s_positive : Stmt := topS 57
abbrev N_positive : List Str := ["one", "both"]
theorem sc_positive : FnScope N_positive ["one"] (defScope s_positive) := ⟨rfl, rfl, rfl, by decide +kernel, rfl, by decide +kernel, by decide +kernel⟩
abbrev s_axis_factor : Stmt := topS 58
abbrev N_axis_factor : List Str := ["one", "zeros", "rest"]
theorem sc_axis_factor : FnScope N_axis_factor ["one"] (defScope s_axis_factor) := ⟨rfl, rfl, rfl, by decide +kernel, rfl, by decide +kernel, by decide +kernel⟩
abbrev s_is_odd : Stmt := topS 60
abbrev N_is_odd : List Str := ["one", "turned"]
theorem sc_is_odd : FnScope N_is_odd ["one"] (defScope s_is_odd) := ⟨rfl, rfl, rfl, by decide +kernel, rfl, by decide +kernel, by decide +kernel⟩
abbrev s_lossless : Stmt := topS 61
abbrev N_lossless : List Str := ["one"]
theorem sc_lossless : FnScope N_lossless ["one"] (defScope s_lossless) := ⟨rfl, rfl, rfl, by decide +kernel, rfl, by decide +kernel, by decide +kernel⟩
abbrev s_is_lossless : Stmt := topS 62
abbrev N_is_lossless : List Str := ["one"]
theorem sc_is_lossless : FnScope N_is_lossless ["one"] (defScope s_is_lossless) := ⟨rfl, rfl, rfl, by decide +kernel, rfl, by decide +kernel, by decide +kernel⟩
abbrev s_far_of : Stmt := topS 64
abbrev N_far_of : List Str := ["one"]
theorem sc_far_of : FnScope N_far_of ["one"] (defScope s_far_of) := ⟨rfl, rfl, rfl, by decide +kernel, rfl, by decide +kernel, by decide +kernel⟩
abbrev s_near_of : Stmt := topS 65
abbrev N_near_of : List Str := ["one"]
theorem sc_near_of : FnScope N_near_of ["one"] (defScope s_near_of) := ⟨rfl, rfl, rfl, by decide +kernel, rfl, by decide +kernel, by decide +kernel⟩
abbrev s_root_in : Stmt := topS 67
abbrev N_root_in : List Str := ["one", "low", "high", "lead", "middle", "place"]
theorem sc_root_in : FnScope N_root_in ["one", "low", "high"] (defScope s_root_in) := ⟨rfl, rfl, rfl, by decide +kernel, rfl, by decide +kernel, by decide +kernel⟩
abbrev s_rational_roots : Stmt := topS 68
abbrev N_rational_roots : List Str := ["one", "high", "found", "spans", "low", "many", "middle"]
theorem sc_rational_roots : FnScope N_rational_roots ["one"] (defScope s_rational_roots) := ⟨rfl, rfl, rfl, by decide +kernel, rfl, by decide +kernel, by decide +kernel⟩
abbrev s_limit_at : Stmt := topS 69
abbrev N_limit_at : List Str := ["one", "square", "x", "top", "rest"]
theorem sc_limit_at : FnScope N_limit_at ["one", "square"] (defScope s_limit_at) := ⟨rfl, rfl, rfl, by decide +kernel, rfl, by decide +kernel, by decide +kernel⟩
abbrev s_tank_parts : Stmt := topS 70
abbrev N_tank_parts : List Str := ["one", "zeros", "factor", "squares", "tanks", "square"]
theorem sc_tank_parts : FnScope N_tank_parts ["one"] (defScope s_tank_parts) := ⟨rfl, rfl, rfl, by decide +kernel, rfl, by decide +kernel, by decide +kernel⟩
abbrev s_law_taken : Stmt := topS 72
abbrev N_law_taken : List Str := ["_law_row", "_law_many", "_law_found", "_law_cell"]
theorem sc_law_taken : FnScope N_law_taken ["_law_row", "_law_many"] (defScope s_law_taken) := ⟨rfl, rfl, rfl, by decide +kernel, rfl, by decide +kernel, by decide +kernel⟩
abbrev s_law_shared : Stmt := topS 73
abbrev N_law_shared : List Str := ["_law_one", "_law_other", "_law_turn"]
theorem sc_law_shared : FnScope N_law_shared ["_law_one", "_law_other"] (defScope s_law_shared) := ⟨rfl, rfl, rfl, by decide +kernel, rfl, by decide +kernel, by decide +kernel⟩
abbrev s_law_ratio : Stmt := topS 74
abbrev N_law_ratio : List Str := ["_law_top", "_law_bottom", "_law_shared_here"]
theorem sc_law_ratio : FnScope N_law_ratio ["_law_top", "_law_bottom"] (defScope s_law_ratio) := ⟨rfl, rfl, rfl, by decide +kernel, rfl, by decide +kernel, by decide +kernel⟩
abbrev s_law_is_square : Stmt := topS 75
abbrev N_law_is_square : List Str := ["_law_number", "_law_root"]
theorem sc_law_is_square : FnScope N_law_is_square ["_law_number"] (defScope s_law_is_square) := ⟨rfl, rfl, rfl, by decide +kernel, rfl, by decide +kernel, by decide +kernel⟩
abbrev s_law : Stmt := topS 76
abbrev N_law : List Str := ["_law_script", "_law_row", "_law_a", "_law_b", "_law_c", "_law_one", "_law_told", "_law_rest", "_law_root", "_law_due"]
theorem sc_law : FnScope N_law ["_law_script"] (defScope s_law) := ⟨rfl, rfl, rfl, by decide +kernel, rfl, by decide +kernel, by decide +kernel⟩
/-- the built-in names, the constants of the top -/
structure Bi (K : PySem.W.Frag) (mg : Str → Option Value) : Prop where
  len : mg "len" = none
  range : mg "range" = none
  zip : mg "zip" = none
  enumerate : mg "enumerate" = none
  tuple : mg "tuple" = none
  list : mg "list" = none
  isinstance : mg "isinstance" = none
  int : mg "int" = none
  bool : mg "bool" = none
  all : mg "all" = none
  any : mg "any" = none
  max : mg "max" = none
  abs : mg "abs" = none
  gcd : mg "gcd" = some (.builtin "math.gcd")
  most : ∃ t, mg "MOST_SIZE" = some (.int (10 ^ 60) t)
  deg : ∃ t, mg "MOST_DEGREE" = some (.int 12 t)
  zero : ∃ a, mg "ZERO" = some (.ref a) ∧ ∀ H, Rp K H cZERO (.ref a)
theorem fe_most {X : Cx} {pos : Pos} (B : Bi X.K X.mg) (hg : Gl X "MOST_SIZE") : FE X (.Name "MOST_SIZE" pos) (gC cMOST) := by
  obtain ⟨t, h⟩ := B.most
  exact fe_c (pe_glob (v := .int (10 ^ 60)) hg h ⟨t, rfl⟩) fun _ => rfl
theorem fe_deg {X : Cx} {pos : Pos} (B : Bi X.K X.mg) (hg : Gl X "MOST_DEGREE") : FE X (.Name "MOST_DEGREE" pos) (gC (.int 12)) := by
  obtain ⟨t, h⟩ := B.deg
  exact fe_c (pe_glob (v := .int 12) hg h ⟨t, rfl⟩) fun _ => rfl
theorem fe_zero {X : Cx} {pos : Pos} (B : Bi X.K X.mg) (hg : Gl X "ZERO") : FE X (.Name "ZERO" pos) (gC cZERO) := by
  obtain ⟨a, h, r⟩ := B.zero
  exact fe_c (pe_glob (v := .ref a) hg h rfl) r
theorem hr65 {k : Nat} {A : Around} (hr : Room k A) : A.units + 65 < cLine := by
  have := hr.un
  omega
end FT
end -- GT
section -- GD0
set_option Elab.async false
set_option linter.all false
set_option maxRecDepth 100000
set_option maxHeartbeats 4000000
namespace FT
open PySem PySem.Spec PyProof.Rows L2 FL
section
variable {P : Program} {w : World} {K : PySem.W.Frag} {mg : Str → Option Value} {base : Heap}
theorem ok_is_int {f : Addr} {fd : FuncData} (F : Fun K "is_int" "is_int" s_is_int f fd) (hm : mg "is_int" = some (.ref f)) (B : Bi K mg) : Fn P w K mg base "is_int" 1 ["value"] m_is_int :=
  fn_mk (h := h_is_int) (k := 0) F sc_is_int rfl rfl hm (F.binds fun _ _ _ _ _ _ us hl => match us, hl with | [_], _ => rfl) fun cdv A outer s H E hr =>
    (fss_one (fs_ret (fe_and (fe_is (T := "int") (by rfl) B.isinstance (by rfl) B.int PyProof.Rows.boot_int (by decide) (by decide) (fe_v (pv 0))) (fe_one (fe_not (fe_is (T := "bool") (by rfl) B.isinstance (by rfl) B.bool PyProof.Rows.boot_bool (by decide) (by decide) (fe_v (pv 0))))))))
theorem ok_is_in {f : Addr} {fd : FuncData} (F : Fun K "is_in" "is_in" s_is_in f fd) (hm : mg "is_in" = some (.ref f)) (B : Bi K mg) (G_is_int : Fn P w K mg base "is_int" 1 ["value"] m_is_int) : Fn P w K mg base "is_in" 2 ["value", "least", "most"] m_is_in :=
  fn_mk (h := h_is_in) (k := 1) F sc_is_in rfl rfl hm (F.binds fun _ _ _ _ _ _ us hl => match us, hl with | [_, _, _], _ => rfl) fun cdv A outer s H E hr =>
    (fss_one (fs_ret (fe_and (fe_fn G_is_int (hr.mono (by decide)) (by rfl) (fa_cons (fe_v (pv 0)) fa_nil)) (fe_one (fe_chain op_le s_le op_le s_le (fe_v (pv 1)) (fe_v (pv 0)) (fe_v (pv 2)))))))
theorem ok_ratio {f : Addr} {fd : FuncData} (F : Fun K "ratio" "ratio" s_ratio f fd) (hm : mg "ratio" = some (.ref f)) (B : Bi K mg) : Fn P w K mg base "ratio" 1 ["top", "bottom"] m_ratio :=
  fn_mk (h := h_ratio) (k := 0) F sc_ratio rfl rfl hm (F.binds fun _ _ _ _ _ _ us hl => match us, hl with | [_, _], _ => rfl) fun cdv A outer s H E hr =>
    (fss_cons (fs_set (i := 2) sc_ratio.nd rfl (Or.inl rfl) (fe_callBf cr_gcd s_gcd (by rfl) B.gcd (fa_cons (fe_v (pv 0)) (fa_cons (fe_v (pv 1)) fa_nil))))
    (fss_cons (fs_if (ft_cmp op_lt s_lt (fe_v (pv 1)) fe_int (nomark _)) (fss_one (fs_set (i := 2) sc_ratio.nd rfl (Or.inl rfl) (fe_un un_neg s_neg (fe_v (pv 2))))) fss_nil)
    (fss_one (fs_ret (fe_tup (fa_cons (fe_op op_fdivN s_div (fe_v (pv 0)) (fe_v (pv 2))) (fa_cons (fe_op op_fdivN s_div (fe_v (pv 1)) (fe_v (pv 2))) fa_nil)))))))
theorem ok_plus {f : Addr} {fd : FuncData} (F : Fun K "plus" "plus" s_plus f fd) (hm : mg "plus" = some (.ref f)) (B : Bi K mg) (G_ratio : Fn P w K mg base "ratio" 1 ["top", "bottom"] M_ratio) : Fn P w K mg base "plus" 2 ["one", "other"] m_plus :=
  fn_mk (h := h_plus) (k := 1) F sc_plus rfl rfl hm (F.binds fun _ _ _ _ _ _ us hl => match us, hl with | [_, _], _ => rfl) fun cdv A outer s H E hr =>
    (fss_one (fs_ret (fe_fn G_ratio (hr.mono (by decide)) (by rfl) (fa_cons (fe_op op_add s_add (fe_op op_mulF s_mul (fe_ix ixF s_ix (fe_v (pv 0)) fe_int (fun _ _ => rfl)) (fe_ix ixF s_ix (fe_v (pv 1)) fe_int (fun _ _ => rfl))) (fe_op op_mulF s_mul (fe_ix ixF s_ix (fe_v (pv 1)) fe_int (fun _ _ => rfl)) (fe_ix ixF s_ix (fe_v (pv 0)) fe_int (fun _ _ => rfl)))) (fa_cons (fe_op op_mulF s_mul (fe_ix ixF s_ix (fe_v (pv 0)) fe_int (fun _ _ => rfl)) (fe_ix ixF s_ix (fe_v (pv 1)) fe_int (fun _ _ => rfl))) fa_nil)))))
theorem ok_minus {f : Addr} {fd : FuncData} (F : Fun K "minus" "minus" s_minus f fd) (hm : mg "minus" = some (.ref f)) (B : Bi K mg) (G_ratio : Fn P w K mg base "ratio" 1 ["top", "bottom"] M_ratio) : Fn P w K mg base "minus" 2 ["one", "other"] m_minus :=
  fn_mk (h := h_minus) (k := 1) F sc_minus rfl rfl hm (F.binds fun _ _ _ _ _ _ us hl => match us, hl with | [_, _], _ => rfl) fun cdv A outer s H E hr =>
    (fss_one (fs_ret (fe_fn G_ratio (hr.mono (by decide)) (by rfl) (fa_cons (fe_op op_subF s_sub (fe_op op_mulF s_mul (fe_ix ixF s_ix (fe_v (pv 0)) fe_int (fun _ _ => rfl)) (fe_ix ixF s_ix (fe_v (pv 1)) fe_int (fun _ _ => rfl))) (fe_op op_mulF s_mul (fe_ix ixF s_ix (fe_v (pv 1)) fe_int (fun _ _ => rfl)) (fe_ix ixF s_ix (fe_v (pv 0)) fe_int (fun _ _ => rfl)))) (fa_cons (fe_op op_mulF s_mul (fe_ix ixF s_ix (fe_v (pv 0)) fe_int (fun _ _ => rfl)) (fe_ix ixF s_ix (fe_v (pv 1)) fe_int (fun _ _ => rfl))) fa_nil)))))
theorem ok_times {f : Addr} {fd : FuncData} (F : Fun K "times" "times" s_times f fd) (hm : mg "times" = some (.ref f)) (B : Bi K mg) (G_ratio : Fn P w K mg base "ratio" 1 ["top", "bottom"] M_ratio) : Fn P w K mg base "times" 2 ["one", "other"] m_times :=
  fn_mk (h := h_times) (k := 1) F sc_times rfl rfl hm (F.binds fun _ _ _ _ _ _ us hl => match us, hl with | [_, _], _ => rfl) fun cdv A outer s H E hr =>
    (fss_one (fs_ret (fe_fn G_ratio (hr.mono (by decide)) (by rfl) (fa_cons (fe_op op_mulF s_mul (fe_ix ixF s_ix (fe_v (pv 0)) fe_int (fun _ _ => rfl)) (fe_ix ixF s_ix (fe_v (pv 1)) fe_int (fun _ _ => rfl))) (fa_cons (fe_op op_mulF s_mul (fe_ix ixF s_ix (fe_v (pv 0)) fe_int (fun _ _ => rfl)) (fe_ix ixF s_ix (fe_v (pv 1)) fe_int (fun _ _ => rfl))) fa_nil)))))
theorem ok_over {f : Addr} {fd : FuncData} (F : Fun K "over" "over" s_over f fd) (hm : mg "over" = some (.ref f)) (B : Bi K mg) (G_ratio : Fn P w K mg base "ratio" 1 ["top", "bottom"] M_ratio) : Fn P w K mg base "over" 2 ["one", "other"] m_over :=
  fn_mk (h := h_over) (k := 1) F sc_over rfl rfl hm (F.binds fun _ _ _ _ _ _ us hl => match us, hl with | [_, _], _ => rfl) fun cdv A outer s H E hr =>
    (fss_one (fs_ret (fe_fn G_ratio (hr.mono (by decide)) (by rfl) (fa_cons (fe_op op_mulF s_mul (fe_ix ixF s_ix (fe_v (pv 0)) fe_int (fun _ _ => rfl)) (fe_ix ixF s_ix (fe_v (pv 1)) fe_int (fun _ _ => rfl))) (fa_cons (fe_op op_mulF s_mul (fe_ix ixF s_ix (fe_v (pv 0)) fe_int (fun _ _ => rfl)) (fe_ix ixF s_ix (fe_v (pv 1)) fe_int (fun _ _ => rfl))) fa_nil)))))
theorem ok_is_less {f : Addr} {fd : FuncData} (F : Fun K "is_less" "is_less" s_is_less f fd) (hm : mg "is_less" = some (.ref f)) (B : Bi K mg) : Fn P w K mg base "is_less" 1 ["one", "other"] m_is_less :=
  fn_mk (h := h_is_less) (k := 0) F sc_is_less rfl rfl hm (F.binds fun _ _ _ _ _ _ us hl => match us, hl with | [_, _], _ => rfl) fun cdv A outer s H E hr =>
    (fss_one (fs_ret (fe_cmp op_lt s_lt (fe_op op_mulF s_mul (fe_ix ixF s_ix (fe_v (pv 0)) fe_int (fun _ _ => rfl)) (fe_ix ixF s_ix (fe_v (pv 1)) fe_int (fun _ _ => rfl))) (fe_op op_mulF s_mul (fe_ix ixF s_ix (fe_v (pv 1)) fe_int (fun _ _ => rfl)) (fe_ix ixF s_ix (fe_v (pv 0)) fe_int (fun _ _ => rfl))) (nomark _))))
theorem ok_is_poly {f : Addr} {fd : FuncData} (F : Fun K "is_poly" "is_poly" s_is_poly f fd) (hm : mg "is_poly" = some (.ref f)) (B : Bi K mg) (G_is_in : Fn P w K mg base "is_in" 2 ["value", "least", "most"] m_is_in) : Fn P w K mg base "is_poly" 3 ["value"] m_is_poly :=
  fn_mk (h := h_is_poly) (k := 2) F sc_is_poly rfl rfl hm (F.binds fun _ _ _ _ _ _ us hl => match us, hl with | [_], _ => rfl) fun cdv A outer s H E hr =>
    (fss_cons (fs_if (PW.pt (fw_or (ft_not (ft_val (fe_is (T := "tuple") (by rfl) B.isinstance (by rfl) B.tuple PyProof.Rows.boot_tuple (by decide) (by decide) (fe_v (pv 0))))) (fw_or1 (ft_cmp op_gt s_gt (fe_callB call_len_seq s_len (by rfl) B.len PySem.boot_len (fa_cons (fe_v (pv 0)) fa_nil)) (fe_op op_add s_add (fe_deg B (by rfl)) fe_int) (nomark _))))) (fss_one (fs_ret fe_bl)) fss_nil)
    (fss_cons (fs_if (ft_not (ft_val (fe_callB (cr_all rfl) s_all (by rfl) B.all (by decide +kernel) (fa_cons (fe_comp (own := [("one", 1)]) (tg := (.one 1)) rfl sc_is_poly.nd (fi_weak (fi_tup (fe_v (pv 0)))) (blkOk_by (own := [("one", 1)]) (N := N_is_poly) (sc := defScope s_is_poly) (by decide +kernel)) (fun _ _ _ _ _ => (pg_name (i := 1) sc_is_poly.nd rfl (Or.inl rfl))) (fun _ _ _ _ _ => fts_nil) (fun _ _ _ _ _ => (fe_fn G_is_in (hr.mono (by decide)) (by rfl) (fa_cons (fe_v (pv 1)) (fa_cons (fe_un un_neg s_neg (fe_most B (by rfl))) (fa_cons (fe_most B (by rfl)) fa_nil)))))) fa_nil)))) (fss_one (fs_ret fe_bl)) fss_nil)
    (fss_one (fs_ret (fe_or (fe_cmp (op_eqD hr.units) s_eq (fe_v (pv 0)) (fe_tup fa_nil) (nomark _)) (fe_one (fe_cmp (op_neD hr.units) s_ne (fe_ix ixF s_ix (fe_v (pv 0)) (fe_un un_neg s_neg fe_int) (fun _ _ => rfl)) fe_int (nomark _))))))))
theorem ok_need_poly {f : Addr} {fd : FuncData} (F : Fun K "need_poly" "need_poly" s_need_poly f fd) (hm : mg "need_poly" = some (.ref f)) (B : Bi K mg) (G_is_poly : Fn P w K mg base "is_poly" 3 ["value"] m_is_poly) : Fn P w K mg base "need_poly" 4 ["value"] m_need_poly :=
  fn_mk (h := h_need_poly) (k := 3) F sc_need_poly rfl rfl hm (F.binds fun _ _ _ _ _ _ us hl => match us, hl with | [_], _ => rfl) fun cdv A outer s H E hr =>
    (fss_one (fs_if (ft_not (ft_val (fe_fn G_is_poly (hr.mono (by decide)) (by rfl) (fa_cons (fe_v (pv 0)) fa_nil)))) (fss_one fs_never) fss_nil))
end
end FT
end -- GD0
section -- GD1
set_option Elab.async false
set_option linter.all false
set_option maxRecDepth 100000
set_option maxHeartbeats 4000000
namespace FT
open PySem PySem.Spec PyProof.Rows L2 FL
section
variable {P : Program} {w : World} {K : PySem.W.Frag} {mg : Str → Option Value} {base : Heap}
theorem ok_trimmed {f : Addr} {fd : FuncData} (F : Fun K "trimmed" "trimmed" s_trimmed f fd) (hm : mg "trimmed" = some (.ref f)) (B : Bi K mg) : Fn P w K mg base "trimmed" 1 ["some"] m_trimmed :=
  fn_mk (h := h_trimmed) (k := 0) F sc_trimmed rfl rfl hm (F.binds fun _ _ _ _ _ _ us hl => match us, hl with | [_], _ => rfl) fun cdv A outer s H E hr =>
    (fss_cons (fs_set (i := 1) sc_trimmed.nd rfl (Or.inl rfl) (fe_callB call_len_seq s_len (by rfl) B.len PySem.boot_len (fa_cons (fe_v (pv 0)) fa_nil)))
    (fss_cons (fs_while 20 PassesOwn.never (PW.pt (fw_and (ft_cmp op_gt s_gt (fe_v (pv 1)) fe_int (nomark _)) (fw_and1 (ft_cmp (op_eqD hr.units) s_eq (fe_ix ixF s_ix (fe_v (pv 0)) (fe_op op_subF s_sub (fe_v (pv 1)) fe_int) (fun _ _ => rfl)) fe_int (nomark _))))) (fss_one (fs_aug (i := 1) sc_trimmed.nd rfl (Or.inl rfl) fe_int ip_sub s_ip)))
    (fss_one (fs_ret (fe_callTy call_tuple_of s_tuple (by rfl) B.tuple PyProof.Rows.boot_tuple (fa_cons (fe_slice slF s_sl (fe_v (pv 0)) fo_none (fo_some (fe_v (pv 1)))) fa_nil))))))
theorem ok_poly_plus {f : Addr} {fd : FuncData} (F : Fun K "poly_plus" "poly_plus" s_poly_plus f fd) (hm : mg "poly_plus" = some (.ref f)) (B : Bi K mg) (G_trimmed : Fn P w K mg base "trimmed" 1 ["some"] M_trimmed) : Fn P w K mg base "poly_plus" 2 ["one", "other"] m_poly_plus :=
  fn_mk (h := h_poly_plus) (k := 1) F sc_poly_plus rfl rfl hm (F.binds fun _ _ _ _ _ _ us hl => match us, hl with | [_, _], _ => rfl) fun cdv A outer s H E hr =>
    (fss_cons (fs_set (i := 2) sc_poly_plus.nd rfl (Or.inl rfl) (fe_callB (call_max2 rfl) s_max (by rfl) B.max PyProof.Rows.boot_max (fa_cons (fe_callB call_len_seq s_len (by rfl) B.len PySem.boot_len (fa_cons (fe_v (pv 0)) fa_nil)) (fa_cons (fe_callB call_len_seq s_len (by rfl) B.len PySem.boot_len (fa_cons (fe_v (pv 1)) fa_nil)) fa_nil))))
    (fss_cons (fs_par (i := 3) (j := 4) rfl sc_poly_plus.nd rfl rfl (by decide) rfl rfl (fe_lst (fa_star (fe_v (pv 0)) (fa_star (fe_op op_mulF s_mul (fe_lst (fa_cons fe_int fa_nil)) (fe_op op_subF s_sub (fe_v (pv 2)) (fe_callB call_len_seq s_len (by rfl) B.len PySem.boot_len (fa_cons (fe_v (pv 0)) fa_nil)))) fa_nil))) (fe_lst (fa_star (fe_v (pv 1)) (fa_star (fe_op op_mulF s_mul (fe_lst (fa_cons fe_int fa_nil)) (fe_op op_subF s_sub (fe_v (pv 2)) (fe_callB call_len_seq s_len (by rfl) B.len PySem.boot_len (fa_cons (fe_v (pv 1)) fa_nil)))) fa_nil))) (by rfl))
    (fss_one (fs_ret (fe_fn G_trimmed (hr.mono (by decide)) (by rfl) (fa_cons (fe_comp (own := [("a", 5), ("b", 6)]) (tg := (.two 5 6)) rfl sc_poly_plus.nd (fi_zip (by rfl) B.zip (fa_cons (fe_v (pv 3)) (fa_cons (fe_v (pv 4)) fa_nil))) (blkOk_by (own := [("a", 5), ("b", 6)]) (N := N_poly_plus) (sc := defScope s_poly_plus) (by decide +kernel)) (fun _ _ _ _ _ => (pg_tup rfl (pgs_cons (pg_name (i := 5) sc_poly_plus.nd rfl (Or.inl rfl)) (pgs_cons (pg_name (i := 6) sc_poly_plus.nd rfl (Or.inl rfl)) pgs_nil)))) (fun _ _ _ _ _ => fts_nil) (fun _ _ _ _ _ => (fe_op op_add s_add (fe_v (pv 5)) (fe_v (pv 6))))) fa_nil))))))
theorem ok_scaled {f : Addr} {fd : FuncData} (F : Fun K "scaled" "scaled" s_scaled f fd) (hm : mg "scaled" = some (.ref f)) (B : Bi K mg) (G_trimmed : Fn P w K mg base "trimmed" 1 ["some"] M_trimmed) : Fn P w K mg base "scaled" 2 ["one", "factor"] m_scaled :=
  fn_mk (h := h_scaled) (k := 1) F sc_scaled rfl rfl hm (F.binds fun _ _ _ _ _ _ us hl => match us, hl with | [_, _], _ => rfl) fun cdv A outer s H E hr =>
    (fss_one (fs_ret (fe_fn G_trimmed (hr.mono (by decide)) (by rfl) (fa_cons (fe_comp (own := [("a", 2)]) (tg := (.one 2)) rfl sc_scaled.nd (fi_weak (fi_tup (fe_v (pv 0)))) (blkOk_by (own := [("a", 2)]) (N := N_scaled) (sc := defScope s_scaled) (by decide +kernel)) (fun _ _ _ _ _ => (pg_name (i := 2) sc_scaled.nd rfl (Or.inl rfl))) (fun _ _ _ _ _ => fts_nil) (fun _ _ _ _ _ => (fe_op op_mulF s_mul (fe_v (pv 1)) (fe_v (pv 2))))) fa_nil))))
theorem ok_poly_minus {f : Addr} {fd : FuncData} (F : Fun K "poly_minus" "poly_minus" s_poly_minus f fd) (hm : mg "poly_minus" = some (.ref f)) (B : Bi K mg) (G_scaled : Fn P w K mg base "scaled" 2 ["one", "factor"] M_scaled) (G_poly_plus : Fn P w K mg base "poly_plus" 2 ["one", "other"] M_poly_plus) : Fn P w K mg base "poly_minus" 3 ["one", "other"] m_poly_minus :=
  fn_mk (h := h_poly_minus) (k := 2) F sc_poly_minus rfl rfl hm (F.binds fun _ _ _ _ _ _ us hl => match us, hl with | [_, _], _ => rfl) fun cdv A outer s H E hr =>
    (fss_one (fs_ret (fe_fn G_poly_plus (hr.mono (by decide)) (by rfl) (fa_cons (fe_v (pv 0)) (fa_cons (fe_fn G_scaled (hr.mono (by decide)) (by rfl) (fa_cons (fe_v (pv 1)) (fa_cons (fe_un un_neg s_neg fe_int) fa_nil))) fa_nil)))))
theorem ok_poly_times {f : Addr} {fd : FuncData} (F : Fun K "poly_times" "poly_times" s_poly_times f fd) (hm : mg "poly_times" = some (.ref f)) (B : Bi K mg) (G_trimmed : Fn P w K mg base "trimmed" 1 ["some"] M_trimmed) : Fn P w K mg base "poly_times" 2 ["one", "other"] m_poly_times :=
  fn_mk (h := h_poly_times) (k := 1) F sc_poly_times rfl rfl hm (F.binds fun _ _ _ _ _ _ us hl => match us, hl with | [_, _], _ => rfl) fun cdv A outer s H E hr =>
    (fss_cons (fs_if (PW.pt (fw_or (ft_cmp (op_eqD hr.units) s_eq (fe_v (pv 0)) (fe_tup fa_nil) (nomark _)) (fw_or1 (ft_cmp (op_eqD hr.units) s_eq (fe_v (pv 1)) (fe_tup fa_nil) (nomark _))))) (fss_one (fs_ret (fe_tup fa_nil))) fss_nil)
    (fss_cons (fs_set (i := 2) sc_poly_times.nd rfl (Or.inl rfl) (fe_op op_mulF s_mul (fe_lst (fa_cons fe_int fa_nil)) (fe_op op_subF s_sub (fe_op op_add s_add (fe_callB call_len_seq s_len (by rfl) B.len PySem.boot_len (fa_cons (fe_v (pv 0)) fa_nil)) (fe_callB call_len_seq s_len (by rfl) B.len PySem.boot_len (fa_cons (fe_v (pv 1)) fa_nil))) fe_int)))
    (fss_cons (fs_for (tg := (.two 3 4)) PassesOwn.never rfl (fi_enum (by rfl) B.enumerate (fa_cons (fe_v (pv 0)) fa_nil)) (pg_tup rfl (pgs_cons (pg_name (i := 3) sc_poly_times.nd rfl (Or.inl rfl)) (pgs_cons (pg_name (i := 4) sc_poly_times.nd rfl (Or.inl rfl)) pgs_nil))) (fss_one (fs_for (tg := (.two 5 6)) PassesOwn.never rfl (fi_enum (by rfl) B.enumerate (fa_cons (fe_v (pv 1)) fa_nil)) (pg_tup rfl (pgs_cons (pg_name (i := 5) sc_poly_times.nd rfl (Or.inl rfl)) (pgs_cons (pg_name (i := 6) sc_poly_times.nd rfl (Or.inl rfl)) pgs_nil))) (fss_one (fs_augIt (pv 2) (fe_op op_add s_add (fe_v (pv 3)) (fe_v (pv 5))) (fe_op op_mulF s_mul (fe_v (pv 4)) (fe_v (pv 6))) ip_add s_ip)))))
    (fss_one (fs_ret (fe_fn G_trimmed (hr.mono (by decide)) (by rfl) (fa_cons (fe_v (pv 2)) fa_nil)))))))
theorem ok_content {f : Addr} {fd : FuncData} (F : Fun K "content" "content" s_content f fd) (hm : mg "content" = some (.ref f)) (B : Bi K mg) : Fn P w K mg base "content" 1 ["one"] m_content :=
  fn_mk (h := h_content) (k := 0) F sc_content rfl rfl hm (F.binds fun _ _ _ _ _ _ us hl => match us, hl with | [_], _ => rfl) fun cdv A outer s H E hr =>
    (fss_cons (fs_set (i := 1) sc_content.nd rfl (Or.inl rfl) fe_int)
    (fss_cons (fs_for (tg := (.one 2)) PassesOwn.never rfl (fi_tup (fe_v (pv 0))) (pg_name (i := 2) sc_content.nd rfl (Or.inl rfl)) (fss_one (fs_set (i := 1) sc_content.nd rfl (Or.inl rfl) (fe_callBf cr_gcd s_gcd (by rfl) B.gcd (fa_cons (fe_v (pv 1)) (fa_cons (fe_v (pv 2)) fa_nil))))))
    (fss_one (fs_ret (fe_v (pv 1))))))
theorem ok_primitive {f : Addr} {fd : FuncData} (F : Fun K "primitive" "primitive" s_primitive f fd) (hm : mg "primitive" = some (.ref f)) (B : Bi K mg) (G_content : Fn P w K mg base "content" 1 ["one"] M_content) : Fn P w K mg base "primitive" 2 ["one"] m_primitive :=
  fn_mk (h := h_primitive) (k := 1) F sc_primitive rfl rfl hm (F.binds fun _ _ _ _ _ _ us hl => match us, hl with | [_], _ => rfl) fun cdv A outer s H E hr =>
    (fss_cons (fs_if (ft_cmp (op_eqD hr.units) s_eq (fe_v (pv 0)) (fe_tup fa_nil) (nomark _)) (fss_one (fs_ret (fe_tup fa_nil))) fss_nil)
    (fss_cons (fs_set (i := 1) sc_primitive.nd rfl (Or.inr rfl) (fe_fn G_content (hr.mono (by decide)) (by rfl) (fa_cons (fe_v (pv 0)) fa_nil)))
    (fss_cons (fs_if (ft_cmp op_lt s_lt (fe_ix ixF s_ix (fe_v (pv 0)) (fe_un un_neg s_neg fe_int) (fun _ _ => rfl)) fe_int (nomark _)) (fss_one (fs_set (i := 1) sc_primitive.nd rfl (Or.inr rfl) (fe_un un_neg s_neg (fe_v (pv 1))))) fss_nil)
    (fss_one (fs_ret (fe_callTy call_tuple_of s_tuple (by rfl) B.tuple PyProof.Rows.boot_tuple (fa_cons (fe_comp (own := [("a", 2)]) (tg := (.one 2)) rfl sc_primitive.nd (fi_weak (fi_tup (fe_v (pv 0)))) (blkOk_by (own := [("a", 2)]) (N := N_primitive) (sc := defScope s_primitive) (by decide +kernel)) (fun _ _ _ _ _ => (pg_name (i := 2) sc_primitive.nd rfl (Or.inl rfl))) (fun _ _ _ _ _ => fts_nil) (fun _ _ _ _ _ => (fe_op op_fdivN s_div (fe_v (pv 2)) (fe_v (pv 1))))) fa_nil)))))))
theorem ok_remainder {f : Addr} {fd : FuncData} (F : Fun K "remainder" "remainder" s_remainder f fd) (hm : mg "remainder" = some (.ref f)) (B : Bi K mg) (G_scaled : Fn P w K mg base "scaled" 2 ["one", "factor"] M_scaled) (G_poly_minus : Fn P w K mg base "poly_minus" 3 ["one", "other"] M_poly_minus) (G_content : Fn P w K mg base "content" 1 ["one"] M_content) : Fn P w K mg base "remainder" 4 ["one", "other"] m_remainder :=
  fn_mk (h := h_remainder) (k := 3) F sc_remainder rfl rfl hm (F.binds fun _ _ _ _ _ _ us hl => match us, hl with | [_, _], _ => rfl) fun cdv A outer s H E hr =>
    (fss_cons (fs_par (i := 2) (j := 3) rfl sc_remainder.nd rfl rfl (by decide) rfl rfl (fe_v (pv 0)) (fe_ix ixF s_ix (fe_v (pv 1)) (fe_un un_neg s_neg fe_int) (fun _ _ => rfl)) (by rfl))
    (fss_cons (fs_while 20 PassesOwn.never (ft_cmp op_ge s_ge (fe_callB call_len_seq s_len (by rfl) B.len PySem.boot_len (fa_cons (fe_v (pv 2)) fa_nil)) (fe_callB call_len_seq s_len (by rfl) B.len PySem.boot_len (fa_cons (fe_v (pv 1)) fa_nil)) (nomark _)) (fss_cons (fs_set (i := 4) sc_remainder.nd rfl (Or.inl rfl) (fe_op op_subF s_sub (fe_callB call_len_seq s_len (by rfl) B.len PySem.boot_len (fa_cons (fe_v (pv 2)) fa_nil)) (fe_callB call_len_seq s_len (by rfl) B.len PySem.boot_len (fa_cons (fe_v (pv 1)) fa_nil))))
    (fss_cons (fs_set (i := 5) sc_remainder.nd rfl (Or.inl rfl) (fe_fn G_scaled (hr.mono (by decide)) (by rfl) (fa_cons (fe_tup (fa_star (fe_op op_mulF s_mul (fe_lst (fa_cons fe_int fa_nil)) (fe_v (pv 4))) (fa_star (fe_v (pv 1)) fa_nil))) (fa_cons (fe_if (ft_cmp op_gt s_gt (fe_v (pv 3)) fe_int (nomark _)) (fe_ix ixF s_ix (fe_v (pv 2)) (fe_un un_neg s_neg fe_int) (fun _ _ => rfl)) (fe_un un_neg s_neg (fe_ix ixF s_ix (fe_v (pv 2)) (fe_un un_neg s_neg fe_int) (fun _ _ => rfl)))) fa_nil))))
    (fss_one (fs_set (i := 2) sc_remainder.nd rfl (Or.inl rfl) (fe_fn G_poly_minus (hr.mono (by decide)) (by rfl) (fa_cons (fe_fn G_scaled (hr.mono (by decide)) (by rfl) (fa_cons (fe_v (pv 2)) (fa_cons (fe_callB call_abs s_abs (by rfl) B.abs (by decide +kernel) (fa_cons (fe_v (pv 3)) fa_nil)) fa_nil))) (fa_cons (fe_v (pv 5)) fa_nil))))))))
    (fss_cons (fs_set (i := 6) sc_remainder.nd rfl (Or.inr rfl) (fe_fn G_content (hr.mono (by decide)) (by rfl) (fa_cons (fe_v (pv 2)) fa_nil)))
    (fss_one (fs_ret (fe_if (ft_cmp op_gt s_gt (fe_v (pv 6)) fe_int (nomark _)) (fe_callTy call_tuple_of s_tuple (by rfl) B.tuple PyProof.Rows.boot_tuple (fa_cons (fe_comp (own := [("a", 7)]) (tg := (.one 7)) rfl sc_remainder.nd (fi_weak (fi_tup (fe_v (pv 2)))) (blkOk_by (own := [("a", 7)]) (N := N_remainder) (sc := defScope s_remainder) (by decide +kernel)) (fun _ _ _ _ _ => (pg_name (i := 7) sc_remainder.nd rfl (Or.inl rfl))) (fun _ _ _ _ _ => fts_nil) (fun _ _ _ _ _ => (fe_op op_fdivN s_div (fe_v (pv 7)) (fe_v (pv 6))))) fa_nil)) (fe_v (pv 2))))))))
theorem ok_common {f : Addr} {fd : FuncData} (F : Fun K "common" "common" s_common f fd) (hm : mg "common" = some (.ref f)) (B : Bi K mg) (G_remainder : Fn P w K mg base "remainder" 4 ["one", "other"] M_remainder) (G_primitive : Fn P w K mg base "primitive" 2 ["one"] M_primitive) : Fn P w K mg base "common" 5 ["one", "other"] m_common :=
  fn_mk (h := h_common) (k := 4) F sc_common rfl rfl hm (F.binds fun _ _ _ _ _ _ us hl => match us, hl with | [_, _], _ => rfl) fun cdv A outer s H E hr =>
    (fss_cons (fs_while 20 PassesOwn.never (ft_cmp (op_neD hr.units) s_ne (fe_v (pv 1)) (fe_tup fa_nil) (nomark _)) (fss_one (fs_par (i := 0) (j := 1) rfl sc_common.nd rfl rfl (by decide) rfl rfl (fe_v (pv 1)) (fe_fn G_primitive (hr.mono (by decide)) (by rfl) (fa_cons (fe_fn G_remainder (hr.mono (by decide)) (by rfl) (fa_cons (fe_v (pv 0)) (fa_cons (fe_v (pv 1)) fa_nil))) fa_nil)) (by rfl))))
    (fss_one (fs_ret (fe_fn G_primitive (hr.mono (by decide)) (by rfl) (fa_cons (fe_v (pv 0)) fa_nil)))))
theorem ok_quotient {f : Addr} {fd : FuncData} (F : Fun K "quotient" "quotient" s_quotient f fd) (hm : mg "quotient" = some (.ref f)) (B : Bi K mg) (G_trimmed : Fn P w K mg base "trimmed" 1 ["some"] M_trimmed) : Fn P w K mg base "quotient" 2 ["one", "other"] m_quotient :=
  fn_mk (h := h_quotient) (k := 1) F sc_quotient rfl rfl hm (F.binds fun _ _ _ _ _ _ us hl => match us, hl with | [_, _], _ => rfl) fun cdv A outer s H E hr =>
    (fss_cons (fs_par (i := 2) (j := 3) rfl sc_quotient.nd rfl rfl (by decide) rfl rfl (fe_callTy call_list_of s_list (by rfl) B.list PyProof.Rows.boot_list (fa_cons (fe_v (pv 0)) fa_nil)) (fe_op op_mulF s_mul (fe_lst (fa_cons fe_int fa_nil)) (fe_callB (call_max2 rfl) s_max (by rfl) B.max PyProof.Rows.boot_max (fa_cons fe_int (fa_cons (fe_op op_add s_add (fe_op op_subF s_sub (fe_callB call_len_seq s_len (by rfl) B.len PySem.boot_len (fa_cons (fe_v (pv 0)) fa_nil)) (fe_callB call_len_seq s_len (by rfl) B.len PySem.boot_len (fa_cons (fe_v (pv 1)) fa_nil))) fe_int) fa_nil)))) (by rfl))
    (fss_cons (fs_for (tg := (.one 4)) PassesOwn.never rfl (fi_rngD (by rfl) B.range (fa_cons (fe_op op_subF s_sub (fe_callB call_len_seq s_len (by rfl) B.len PySem.boot_len (fa_cons (fe_v (pv 3)) fa_nil)) fe_int) (fa_cons (fe_un un_neg s_neg fe_int) (fa_cons (fe_un un_neg s_neg fe_int) fa_nil)))) (pg_name (i := 4) sc_quotient.nd rfl (Or.inl rfl)) (fss_cons (fs_setIt (pv 3) (fe_v (pv 4)) (fe_op op_fdivN s_div (fe_ix ixF s_ix (fe_v (pv 2)) (fe_op op_subF s_sub (fe_op op_add s_add (fe_v (pv 4)) (fe_callB call_len_seq s_len (by rfl) B.len PySem.boot_len (fa_cons (fe_v (pv 1)) fa_nil))) fe_int) (fun _ _ => rfl)) (fe_ix ixF s_ix (fe_v (pv 1)) (fe_un un_neg s_neg fe_int) (fun _ _ => rfl))))
    (fss_one (fs_for (tg := (.two 5 6)) PassesOwn.never rfl (fi_enum (by rfl) B.enumerate (fa_cons (fe_v (pv 1)) fa_nil)) (pg_tup rfl (pgs_cons (pg_name (i := 5) sc_quotient.nd rfl (Or.inl rfl)) (pgs_cons (pg_name (i := 6) sc_quotient.nd rfl (Or.inl rfl)) pgs_nil))) (fss_one (fs_augIt (pv 2) (fe_op op_add s_add (fe_v (pv 4)) (fe_v (pv 5))) (fe_op op_mulF s_mul (fe_ix ixF s_ix (fe_v (pv 3)) (fe_v (pv 4)) (fun _ _ => rfl)) (fe_v (pv 6))) ip_sub s_ip))))))
    (fss_one (fs_ret (fe_fn G_trimmed (hr.mono (by decide)) (by rfl) (fa_cons (fe_v (pv 3)) fa_nil))))))
end
end FT
end -- GD1
section -- GD2
set_option Elab.async false
set_option linter.all false
set_option maxRecDepth 100000
set_option maxHeartbeats 4000000
namespace FT
open PySem PySem.Spec PyProof.Rows L2 FL
section
variable {P : Program} {w : World} {K : PySem.W.Frag} {mg : Str → Option Value} {base : Heap}
theorem ok_derivative {f : Addr} {fd : FuncData} (F : Fun K "derivative" "derivative" s_derivative f fd) (hm : mg "derivative" = some (.ref f)) (B : Bi K mg) (G_trimmed : Fn P w K mg base "trimmed" 1 ["some"] M_trimmed) : Fn P w K mg base "derivative" 2 ["one"] m_derivative :=
  fn_mk (h := h_derivative) (k := 1) F sc_derivative rfl rfl hm (F.binds fun _ _ _ _ _ _ us hl => match us, hl with | [_], _ => rfl) fun cdv A outer s H E hr =>
    (fss_one (fs_ret (fe_fn G_trimmed (hr.mono (by decide)) (by rfl) (fa_cons (fe_slice slF s_sl (fe_comp (own := [("at", 1), ("a", 2)]) (tg := (.two 1 2)) rfl sc_derivative.nd (fi_weak (fi_enum (by rfl) B.enumerate (fa_cons (fe_v (pv 0)) fa_nil))) (blkOk_by (own := [("at", 1), ("a", 2)]) (N := N_derivative) (sc := defScope s_derivative) (by decide +kernel)) (fun _ _ _ _ _ => (pg_tup rfl (pgs_cons (pg_name (i := 1) sc_derivative.nd rfl (Or.inl rfl)) (pgs_cons (pg_name (i := 2) sc_derivative.nd rfl (Or.inl rfl)) pgs_nil)))) (fun _ _ _ _ _ => fts_nil) (fun _ _ _ _ _ => (fe_op op_mulF s_mul (fe_v (pv 1)) (fe_v (pv 2))))) (fo_some fe_int) fo_none) fa_nil))))
theorem ok_flipped {f : Addr} {fd : FuncData} (F : Fun K "flipped" "flipped" s_flipped f fd) (hm : mg "flipped" = some (.ref f)) (B : Bi K mg) : Fn P w K mg base "flipped" 1 ["one"] m_flipped :=
  fn_mk (h := h_flipped) (k := 0) F sc_flipped rfl rfl hm (F.binds fun _ _ _ _ _ _ us hl => match us, hl with | [_], _ => rfl) fun cdv A outer s H E hr =>
    (fss_one (fs_ret (fe_callTy call_tuple_of s_tuple (by rfl) B.tuple PyProof.Rows.boot_tuple (fa_cons (fe_comp (own := [("at", 1), ("a", 2)]) (tg := (.two 1 2)) rfl sc_flipped.nd (fi_weak (fi_enum (by rfl) B.enumerate (fa_cons (fe_v (pv 0)) fa_nil))) (blkOk_by (own := [("at", 1), ("a", 2)]) (N := N_flipped) (sc := defScope s_flipped) (by decide +kernel)) (fun _ _ _ _ _ => (pg_tup rfl (pgs_cons (pg_name (i := 1) sc_flipped.nd rfl (Or.inl rfl)) (pgs_cons (pg_name (i := 2) sc_flipped.nd rfl (Or.inl rfl)) pgs_nil)))) (fun _ _ _ _ _ => fts_nil) (fun _ _ _ _ _ => (fe_if (ft_cmp (op_eqD hr.units) s_eq (fe_op op_modN s_mod (fe_v (pv 1)) fe_int) fe_int (nomark _)) (fe_v (pv 2)) (fe_un un_neg s_neg (fe_v (pv 2)))))) fa_nil))))
theorem ok_value_of {f : Addr} {fd : FuncData} (F : Fun K "value_of" "value_of" s_value_of f fd) (hm : mg "value_of" = some (.ref f)) (B : Bi K mg) (G_times : Fn P w K mg base "times" 2 ["one", "other"] M_times) (G_plus : Fn P w K mg base "plus" 2 ["one", "other"] M_plus) : Fn P w K mg base "value_of" 3 ["one", "told"] m_value_of :=
  fn_mk (h := h_value_of) (k := 2) F sc_value_of rfl rfl hm (F.binds fun _ _ _ _ _ _ us hl => match us, hl with | [_, _], _ => rfl) fun cdv A outer s H E hr =>
    (fss_cons (fs_set (i := 2) sc_value_of.nd rfl (Or.inl rfl) (fe_tup (fa_cons fe_int (fa_cons fe_int fa_nil))))
    (fss_cons (fs_for (tg := (.one 3)) PassesOwn.never rfl (fi_tup (fe_step (fe_v (pv 0)) fo_none fo_none (fo_some (fe_un un_neg s_neg fe_int)))) (pg_name (i := 3) sc_value_of.nd rfl (Or.inl rfl)) (fss_one (fs_set (i := 2) sc_value_of.nd rfl (Or.inl rfl) (fe_fn G_plus (hr.mono (by decide)) (by rfl) (fa_cons (fe_fn G_times (hr.mono (by decide)) (by rfl) (fa_cons (fe_v (pv 2)) (fa_cons (fe_v (pv 1)) fa_nil))) (fa_cons (fe_tup (fa_cons (fe_v (pv 3)) (fa_cons fe_int fa_nil))) fa_nil))))))
    (fss_one (fs_ret (fe_v (pv 2))))))
theorem ok_even_part {f : Addr} {fd : FuncData} (F : Fun K "even_part" "even_part" s_even_part f fd) (hm : mg "even_part" = some (.ref f)) (B : Bi K mg) (G_trimmed : Fn P w K mg base "trimmed" 1 ["some"] M_trimmed) : Fn P w K mg base "even_part" 2 ["one"] m_even_part :=
  fn_mk (h := h_even_part) (k := 1) F sc_even_part rfl rfl hm (F.binds fun _ _ _ _ _ _ us hl => match us, hl with | [_], _ => rfl) fun cdv A outer s H E hr =>
    (fss_one (fs_ret (fe_fn G_trimmed (hr.mono (by decide)) (by rfl) (fa_cons (fe_step (fe_v (pv 0)) fo_none fo_none (fo_some fe_int)) fa_nil))))
theorem ok_odd_part {f : Addr} {fd : FuncData} (F : Fun K "odd_part" "odd_part" s_odd_part f fd) (hm : mg "odd_part" = some (.ref f)) (B : Bi K mg) (G_trimmed : Fn P w K mg base "trimmed" 1 ["some"] M_trimmed) : Fn P w K mg base "odd_part" 2 ["one"] m_odd_part :=
  fn_mk (h := h_odd_part) (k := 1) F sc_odd_part rfl rfl hm (F.binds fun _ _ _ _ _ _ us hl => match us, hl with | [_], _ => rfl) fun cdv A outer s H E hr =>
    (fss_one (fs_ret (fe_fn G_trimmed (hr.mono (by decide)) (by rfl) (fa_cons (fe_step (fe_v (pv 0)) (fo_some fe_int) fo_none (fo_some fe_int)) fa_nil))))
theorem ok_ordered {f : Addr} {fd : FuncData} (F : Fun K "ordered" "ordered" s_ordered f fd) (hm : mg "ordered" = some (.ref f)) (B : Bi K mg) : Fn P w K mg base "ordered" 1 ["one"] m_ordered :=
  fn_mk (h := h_ordered) (k := 0) F sc_ordered rfl rfl hm (F.binds fun _ _ _ _ _ _ us hl => match us, hl with | [_], _ => rfl) fun cdv A outer s H E hr =>
    (fss_cons (fs_set (i := 1) sc_ordered.nd rfl (Or.inl rfl) fe_int)
    (fss_cons (fs_while 20 PassesOwn.never (ft_cmp (op_eqD hr.units) s_eq (fe_ix ixF s_ix (fe_v (pv 0)) (fe_v (pv 1)) (fun _ _ => rfl)) fe_int (nomark _)) (fss_one (fs_aug (i := 1) sc_ordered.nd rfl (Or.inl rfl) fe_int ip_add s_ip)))
    (fss_one (fs_ret (fe_v (pv 1))))))
theorem ok_made {f : Addr} {fd : FuncData} (F : Fun K "made" "made" s_made f fd) (hm : mg "made" = some (.ref f)) (B : Bi K mg) (G_common : Fn P w K mg base "common" 5 ["one", "other"] M_common) (G_quotient : Fn P w K mg base "quotient" 2 ["one", "other"] m_quotient) (G_content : Fn P w K mg base "content" 1 ["one"] M_content) : Fn P w K mg base "made" 6 ["top", "bottom"] m_made :=
  fn_mk (h := h_made) (k := 5) F sc_made rfl rfl hm (F.binds fun _ _ _ _ _ _ us hl => match us, hl with | [_, _], _ => rfl) fun cdv A outer s H E hr =>
    (fss_cons (fs_if (ft_cmp (op_eqD hr.units) s_eq (fe_v (pv 0)) (fe_tup fa_nil) (nomark _)) (fss_one (fs_ret (fe_zero B (by rfl)))) fss_nil)
    (fss_cons (fs_set (i := 2) sc_made.nd rfl (Or.inl rfl) (fe_fn G_common (hr.mono (by decide)) (by rfl) (fa_cons (fe_v (pv 0)) (fa_cons (fe_v (pv 1)) fa_nil))))
    (fss_cons (fs_par (i := 0) (j := 1) rfl sc_made.nd rfl rfl (by decide) rfl rfl (fe_fn G_quotient (hr.mono (by decide)) (by rfl) (fa_cons (fe_v (pv 0)) (fa_cons (fe_v (pv 2)) fa_nil))) (fe_fn G_quotient (hr.mono (by decide)) (by rfl) (fa_cons (fe_v (pv 1)) (fa_cons (fe_v (pv 2)) fa_nil))) (by rfl))
    (fss_cons (fs_set (i := 3) sc_made.nd rfl (Or.inr rfl) (fe_callBf cr_gcd s_gcd (by rfl) B.gcd (fa_cons (fe_fn G_content (hr.mono (by decide)) (by rfl) (fa_cons (fe_v (pv 0)) fa_nil)) (fa_cons (fe_fn G_content (hr.mono (by decide)) (by rfl) (fa_cons (fe_v (pv 1)) fa_nil)) fa_nil))))
    (fss_cons (fs_if (ft_cmp op_lt s_lt (fe_ix ixF s_ix (fe_v (pv 1)) (fe_un un_neg s_neg fe_int) (fun _ _ => rfl)) fe_int (nomark _)) (fss_one (fs_set (i := 3) sc_made.nd rfl (Or.inr rfl) (fe_un un_neg s_neg (fe_v (pv 3))))) fss_nil)
    (fss_one (fs_ret (fe_tup (fa_cons (fe_callTy call_tuple_of s_tuple (by rfl) B.tuple PyProof.Rows.boot_tuple (fa_cons (fe_comp (own := [("a", 4)]) (tg := (.one 4)) rfl sc_made.nd (fi_weak (fi_tup (fe_v (pv 0)))) (blkOk_by (own := [("a", 4)]) (N := N_made) (sc := defScope s_made) (by decide +kernel)) (fun _ _ _ _ _ => (pg_name (i := 4) sc_made.nd rfl (Or.inl rfl))) (fun _ _ _ _ _ => fts_nil) (fun _ _ _ _ _ => (fe_op op_fdivN s_div (fe_v (pv 4)) (fe_v (pv 3))))) fa_nil)) (fa_cons (fe_callTy call_tuple_of s_tuple (by rfl) B.tuple PyProof.Rows.boot_tuple (fa_cons (fe_comp (own := [("a", 4)]) (tg := (.one 4)) rfl sc_made.nd (fi_weak (fi_tup (fe_v (pv 1)))) (blkOk_by (own := [("a", 4)]) (N := N_made) (sc := defScope s_made) (by decide +kernel)) (fun _ _ _ _ _ => (pg_name (i := 4) sc_made.nd rfl (Or.inl rfl))) (fun _ _ _ _ _ => fts_nil) (fun _ _ _ _ _ => (fe_op op_fdivN s_div (fe_v (pv 4)) (fe_v (pv 3))))) fa_nil)) fa_nil))))))))))
theorem ok_is_function {f : Addr} {fd : FuncData} (F : Fun K "is_function" "is_function" s_is_function f fd) (hm : mg "is_function" = some (.ref f)) (B : Bi K mg) (G_is_poly : Fn P w K mg base "is_poly" 3 ["value"] m_is_poly) (G_made : Fn P w K mg base "made" 6 ["top", "bottom"] m_made) : Fn P w K mg base "is_function" 7 ["value"] m_is_function :=
  fn_mk (h := h_is_function) (k := 6) F sc_is_function rfl rfl hm (F.binds fun _ _ _ _ _ _ us hl => match us, hl with | [_], _ => rfl) fun cdv A outer s H E hr =>
    (fss_cons (fs_if (PW.pt (fw_or (ft_not (ft_val (fe_is (T := "tuple") (by rfl) B.isinstance (by rfl) B.tuple PyProof.Rows.boot_tuple (by decide) (by decide) (fe_v (pv 0))))) (fw_or (ft_cmp (op_neD hr.units) s_ne (fe_callB call_len_seq s_len (by rfl) B.len PySem.boot_len (fa_cons (fe_v (pv 0)) fa_nil)) fe_int (nomark _)) (fw_or (ft_not (ft_val (fe_fn G_is_poly (hr.mono (by decide)) (by rfl) (fa_cons (fe_ix ixF s_ix (fe_v (pv 0)) fe_int (fun _ _ => rfl)) fa_nil)))) (fw_or1 (ft_not (ft_val (fe_fn G_is_poly (hr.mono (by decide)) (by rfl) (fa_cons (fe_ix ixF s_ix (fe_v (pv 0)) fe_int (fun _ _ => rfl)) fa_nil))))))))) (fss_one (fs_ret fe_bl)) fss_nil)
    (fss_one (fs_ret (fe_and (fe_cmp (op_neD hr.units) s_ne (fe_ix ixF s_ix (fe_v (pv 0)) fe_int (fun _ _ => rfl)) (fe_tup fa_nil) (nomark _)) (fe_one (fe_cmp (op_eqD hr.units) s_eq (fe_fn G_made (hr.mono (by decide)) (by rfl) (fa_cons (fe_ix ixF s_ix (fe_v (pv 0)) fe_int (fun _ _ => rfl)) (fa_cons (fe_ix ixF s_ix (fe_v (pv 0)) fe_int (fun _ _ => rfl)) fa_nil))) (fe_v (pv 0)) (nomark _)))))))
theorem ok_need_function {f : Addr} {fd : FuncData} (F : Fun K "need_function" "need_function" s_need_function f fd) (hm : mg "need_function" = some (.ref f)) (B : Bi K mg) (G_is_function : Fn P w K mg base "is_function" 7 ["value"] m_is_function) : Fn P w K mg base "need_function" 8 ["value"] m_need_function :=
  fn_mk (h := h_need_function) (k := 7) F sc_need_function rfl rfl hm (F.binds fun _ _ _ _ _ _ us hl => match us, hl with | [_], _ => rfl) fun cdv A outer s H E hr =>
    (fss_one (fs_if (ft_not (ft_val (fe_fn G_is_function (hr.mono (by decide)) (by rfl) (fa_cons (fe_v (pv 0)) fa_nil)))) (fss_one fs_never) fss_nil))
theorem ok_function {f : Addr} {fd : FuncData} (F : Fun K "function" "function" s_function f fd) (hm : mg "function" = some (.ref f)) (B : Bi K mg) (G_need_poly : Fn P w K mg base "need_poly" 4 ["value"] m_need_poly) (G_made : Fn P w K mg base "made" 6 ["top", "bottom"] m_made) : Fn P w K mg base "function" 7 ["top", "bottom"] m_function :=
  fn_mk (h := h_function) (k := 6) F sc_function rfl rfl hm (F.binds fun _ _ _ _ _ _ us hl => match us, hl with | [_, _], _ => rfl) fun cdv A outer s H E hr =>
    (fss_cons (fs_expr (fe_fn G_need_poly (hr.mono (by decide)) (by rfl) (fa_cons (fe_v (pv 0)) fa_nil)))
    (fss_cons (fs_expr (fe_fn G_need_poly (hr.mono (by decide)) (by rfl) (fa_cons (fe_v (pv 1)) fa_nil)))
    (fss_cons (fs_if (ft_cmp (op_eqD hr.units) s_eq (fe_v (pv 1)) (fe_tup fa_nil) (nomark _)) (fss_one fs_never) fss_nil)
    (fss_one (fs_ret (fe_fn G_made (hr.mono (by decide)) (by rfl) (fa_cons (fe_v (pv 0)) (fa_cons (fe_v (pv 1)) fa_nil))))))))
end
end FT
end -- GD2
section -- GD3
set_option Elab.async false
set_option linter.all false
set_option maxRecDepth 100000
set_option maxHeartbeats 4000000
namespace FT
open PySem PySem.Spec PyProof.Rows L2 FL
section
variable {P : Program} {w : World} {K : PySem.W.Frag} {mg : Str → Option Value} {base : Heap}
theorem ok_chain_of {f : Addr} {fd : FuncData} (F : Fun K "chain_of" "chain_of" s_chain_of f fd) (hm : mg "chain_of" = some (.ref f)) (B : Bi K mg) (G_derivative : Fn P w K mg base "derivative" 2 ["one"] M_derivative) (G_remainder : Fn P w K mg base "remainder" 4 ["one", "other"] M_remainder) (G_scaled : Fn P w K mg base "scaled" 2 ["one", "factor"] M_scaled) : Fn P w K mg base "chain_of" 5 ["one"] m_chain_of :=
  fn_mk (h := h_chain_of) (k := 4) F sc_chain_of rfl rfl hm (F.binds fun _ _ _ _ _ _ us hl => match us, hl with | [_], _ => rfl) fun cdv A outer s H E hr =>
    (fss_cons (fs_set (i := 1) sc_chain_of.nd rfl (Or.inl rfl) (fe_lst (fa_cons (fe_v (pv 0)) (fa_cons (fe_fn G_derivative (hr.mono (by decide)) (by rfl) (fa_cons (fe_v (pv 0)) fa_nil)) fa_nil))))
    (fss_cons (fs_while 20 PassesOwn.never (ft_cmp (op_neD hr.units) s_ne (fe_ix ixF s_ix (fe_v (pv 1)) (fe_un un_neg s_neg fe_int) (fun _ _ => rfl)) (fe_tup fa_nil) (nomark _)) (fss_one (fs_append (pv 1) (fe_fn G_scaled (hr.mono (by decide)) (by rfl) (fa_cons (fe_fn G_remainder (hr.mono (by decide)) (by rfl) (fa_cons (fe_ix ixF s_ix (fe_v (pv 1)) (fe_un un_neg s_neg fe_int) (fun _ _ => rfl)) (fa_cons (fe_ix ixF s_ix (fe_v (pv 1)) (fe_un un_neg s_neg fe_int) (fun _ _ => rfl)) fa_nil))) (fa_cons (fe_un un_neg s_neg fe_int) fa_nil))) (fun h1 h2 => pe_bm PySem.F.plainAttrs_list PySem.F.slot_list_append PySem.F.type_list_append mt_append h1 h2))))
    (fss_one (fs_ret (fe_slice slF s_sl (fe_v (pv 1)) fo_none (fo_some (fe_un un_neg s_neg fe_int)))))))
theorem ok_changes {f : Addr} {fd : FuncData} (F : Fun K "changes" "changes" s_changes f fd) (hm : mg "changes" = some (.ref f)) (B : Bi K mg) : Fn P w K mg base "changes" 1 ["signs"] m_changes :=
  fn_mk (h := h_changes) (k := 0) F sc_changes rfl rfl hm (F.binds fun _ _ _ _ _ _ us hl => match us, hl with | [_], _ => rfl) fun cdv A outer s H E hr =>
    (fss_cons (fs_set (i := 1) sc_changes.nd rfl (Or.inr rfl) (fe_comp (own := [("sign", 2)]) (tg := (.one 2)) rfl sc_changes.nd (fi_list (fe_v (pv 0))) (blkOk_by (own := [("sign", 2)]) (N := N_changes) (sc := defScope s_changes) (by decide +kernel)) (fun _ _ _ _ _ => (pg_name (i := 2) sc_changes.nd rfl (Or.inl rfl))) (fun _ _ _ _ _ => (fts_one (ft_cmp (op_neD hr.units) s_ne (fe_v (pv 2)) fe_int (nomark _)))) (fun _ _ _ _ _ => (fe_v (pv 2)))))
    (fss_one (fs_ret (fe_callB call_len_seq s_len (by rfl) B.len PySem.boot_len (fa_cons (fe_comp (own := [("at", 3)]) (tg := (.one 3)) rfl sc_changes.nd (fi_weak (fi_rng1 (by rfl) B.range (fa_cons (fe_op op_subF s_sub (fe_callB call_len_seq s_len (by rfl) B.len PySem.boot_len (fa_cons (fe_v (pv 1)) fa_nil)) fe_int) fa_nil))) (blkOk_by (own := [("at", 3)]) (N := N_changes) (sc := defScope s_changes) (by decide +kernel)) (fun _ _ _ _ _ => (pg_name (i := 3) sc_changes.nd rfl (Or.inl rfl))) (fun _ _ _ _ _ => (fts_one (ft_cmp op_lt s_lt (fe_op op_mulF s_mul (fe_ix ixF s_ix (fe_v (pv 1)) (fe_v (pv 3)) (fun _ _ => rfl)) (fe_ix ixF s_ix (fe_v (pv 1)) (fe_op op_add s_add (fe_v (pv 3)) fe_int) (fun _ _ => rfl))) fe_int (nomark _)))) (fun _ _ _ _ _ => (fe_v (pv 3)))) fa_nil)))))
theorem ok_sign_of {f : Addr} {fd : FuncData} (F : Fun K "sign_of" "sign_of" s_sign_of f fd) (hm : mg "sign_of" = some (.ref f)) (B : Bi K mg) : Fn P w K mg base "sign_of" 1 ["number"] m_sign_of :=
  fn_mk (h := h_sign_of) (k := 0) F sc_sign_of rfl rfl hm (F.binds fun _ _ _ _ _ _ us hl => match us, hl with | [_], _ => rfl) fun cdv A outer s H E hr =>
    (fss_one (fs_ret (fe_op op_subF s_sub (fe_cmp op_gt s_gt (fe_v (pv 0)) fe_int (nomark _)) (fe_cmp op_lt s_lt (fe_v (pv 0)) fe_int (nomark _)))))
theorem ok_signs_at {f : Addr} {fd : FuncData} (F : Fun K "signs_at" "signs_at" s_signs_at f fd) (hm : mg "signs_at" = some (.ref f)) (B : Bi K mg) (G_value_of : Fn P w K mg base "value_of" 3 ["one", "told"] M_value_of) (G_sign_of : Fn P w K mg base "sign_of" 1 ["number"] m_sign_of) : Fn P w K mg base "signs_at" 4 ["chain", "told", "side"] m_signs_at :=
  fn_mk (h := h_signs_at) (k := 3) F sc_signs_at rfl rfl hm (F.binds fun _ _ _ _ _ _ us hl => match us, hl with | [_, _, _], _ => rfl) fun cdv A outer s H E hr =>
    (fss_cons (fs_if (ft_cmp op_notN s_notN (fe_v (pv 1)) fe_non (nomark _)) (fss_one (fs_ret (fe_comp (own := [("one", 3)]) (tg := (.one 3)) rfl sc_signs_at.nd (fi_list (fe_v (pv 0))) (blkOk_by (own := [("one", 3)]) (N := N_signs_at) (sc := defScope s_signs_at) (by decide +kernel)) (fun _ _ _ _ _ => (pg_name (i := 3) sc_signs_at.nd rfl (Or.inl rfl))) (fun _ _ _ _ _ => fts_nil) (fun _ _ _ _ _ => (fe_fn G_sign_of (hr.mono (by decide)) (by rfl) (fa_cons (fe_ix ixF s_ix (fe_fn G_value_of (hr.mono (by decide)) (by rfl) (fa_cons (fe_v (pv 3)) (fa_cons (fe_v (pv 1)) fa_nil))) fe_int (fun _ _ => rfl)) fa_nil)))))) fss_nil)
    (fss_one (fs_ret (fe_comp (own := [("one", 3)]) (tg := (.one 3)) rfl sc_signs_at.nd (fi_list (fe_v (pv 0))) (blkOk_by (own := [("one", 3)]) (N := N_signs_at) (sc := defScope s_signs_at) (by decide +kernel)) (fun _ _ _ _ _ => (pg_name (i := 3) sc_signs_at.nd rfl (Or.inl rfl))) (fun _ _ _ _ _ => fts_nil) (fun _ _ _ _ _ => (fe_op op_mulF s_mul (fe_fn G_sign_of (hr.mono (by decide)) (by rfl) (fa_cons (fe_ix ixF s_ix (fe_v (pv 3)) (fe_un un_neg s_neg fe_int) (fun _ _ => rfl)) fa_nil)) (fe_if (PW.pt (fw_or (ft_cmp op_gt s_gt (fe_v (pv 2)) fe_int (nomark _)) (fw_or1 (ft_cmp (op_eqD hr.units) s_eq (fe_op op_modN s_mod (fe_callB call_len_seq s_len (by rfl) B.len PySem.boot_len (fa_cons (fe_v (pv 3)) fa_nil)) fe_int) fe_int (nomark _))))) fe_int (fe_un un_neg s_neg fe_int))))))))
theorem ok_roots_in {f : Addr} {fd : FuncData} (F : Fun K "roots_in" "roots_in" s_roots_in f fd) (hm : mg "roots_in" = some (.ref f)) (B : Bi K mg) (G_derivative : Fn P w K mg base "derivative" 2 ["one"] M_derivative) (G_common : Fn P w K mg base "common" 5 ["one", "other"] M_common) (G_quotient : Fn P w K mg base "quotient" 2 ["one", "other"] m_quotient) (G_chain_of : Fn P w K mg base "chain_of" 5 ["one"] m_chain_of) (G_signs_at : Fn P w K mg base "signs_at" 4 ["chain", "told", "side"] m_signs_at) (G_changes : Fn P w K mg base "changes" 1 ["signs"] m_changes) : Fn P w K mg base "roots_in" 6 ["one", "low", "high"] m_roots_in :=
  fn_mk (h := h_roots_in) (k := 5) F sc_roots_in rfl rfl hm (F.binds fun _ _ _ _ _ _ us hl => match us, hl with | [_, _, _], _ => rfl) fun cdv A outer s H E hr =>
    (fss_cons (fs_if (ft_cmp op_lt s_lt (fe_callB call_len_seq s_len (by rfl) B.len PySem.boot_len (fa_cons (fe_v (pv 0)) fa_nil)) fe_int (nomark _)) (fss_one (fs_ret fe_int)) fss_nil)
    (fss_cons (fs_set (i := 3) sc_roots_in.nd rfl (Or.inl rfl) (fe_fn G_quotient (hr.mono (by decide)) (by rfl) (fa_cons (fe_v (pv 0)) (fa_cons (fe_fn G_common (hr.mono (by decide)) (by rfl) (fa_cons (fe_v (pv 0)) (fa_cons (fe_fn G_derivative (hr.mono (by decide)) (by rfl) (fa_cons (fe_v (pv 0)) fa_nil)) fa_nil))) fa_nil))))
    (fss_cons (fs_set (i := 4) sc_roots_in.nd rfl (Or.inl rfl) (fe_fn G_chain_of (hr.mono (by decide)) (by rfl) (fa_cons (fe_v (pv 3)) fa_nil)))
    (fss_one (fs_ret (fe_op op_subF s_sub (fe_fn G_changes (hr.mono (by decide)) (by rfl) (fa_cons (fe_fn G_signs_at (hr.mono (by decide)) (by rfl) (fa_cons (fe_v (pv 4)) (fa_cons (fe_v (pv 1)) (fa_cons (fe_un un_neg s_neg fe_int) fa_nil)))) fa_nil)) (fe_fn G_changes (hr.mono (by decide)) (by rfl) (fa_cons (fe_fn G_signs_at (hr.mono (by decide)) (by rfl) (fa_cons (fe_v (pv 4)) (fa_cons (fe_v (pv 2)) (fa_cons fe_int fa_nil)))) fa_nil))))))))
theorem ok_less_lead {f : Addr} {fd : FuncData} (F : Fun K "less_lead" "less_lead" s_less_lead f fd) (hm : mg "less_lead" = some (.ref f)) (B : Bi K mg) : Fn P w K mg base "less_lead" 1 ["first", "second", "shifted"] m_less_lead :=
  fn_mk (h := h_less_lead) (k := 0) F sc_less_lead rfl rfl hm (F.binds fun _ _ _ _ _ _ us hl => match us, hl with | [_, _, _], _ => rfl) fun cdv A outer s H E hr =>
    (fss_cons (fs_set (i := 3) sc_less_lead.nd rfl (Or.inl rfl) (fe_if (ft_val (fe_v (pv 2))) (fe_tup (fa_cons fe_int (fa_star (fe_v (pv 1)) fa_nil))) (fe_v (pv 1))))
    (fss_cons (fs_setLc (i := 4) (own := [("a", 5), ("b", 6)]) (tg := (.two 5 6)) rfl sc_less_lead.nd rfl rfl (sw_true rfl rfl rfl (by decide +kernel)) (fi_zip (by rfl) B.zip (fa_cons (fe_v (pv 0)) (fa_cons (fe_v (pv 3)) fa_nil))) (blkOk_by (own := [("a", 5), ("b", 6)]) (N := N_less_lead) (sc := defScope s_less_lead) (by decide +kernel)) (fun _ _ _ _ _ => (pg_tup rfl (pgs_cons (pg_name (i := 5) sc_less_lead.nd rfl (Or.inl rfl)) (pgs_cons (pg_name (i := 6) sc_less_lead.nd rfl (Or.inl rfl)) pgs_nil)))) (fun _ _ _ _ _ => fts_nil) (fun _ _ _ _ _ => (fe_op op_subF s_sub (fe_op op_mulF s_mul (fe_v (pv 5)) (fe_ix ixF s_ix (fe_v (pv 1)) (fe_un un_neg s_neg fe_int) (fun _ _ => rfl))) (fe_op op_mulF s_mul (fe_v (pv 6)) (fe_ix ixF s_ix (fe_v (pv 0)) (fe_un un_neg s_neg fe_int) (fun _ _ => rfl))))))
    (fss_cons (fs_if (ft_cmp op_lt s_lt (fe_ix ixF s_ix (fe_v (pv 1)) (fe_un un_neg s_neg fe_int) (fun _ _ => rfl)) fe_int (nomark _)) (fss_one (fs_setLc (i := 4) (own := [("a", 5)]) (tg := (.one 5)) rfl sc_less_lead.nd rfl rfl (sw_true rfl rfl rfl (by decide +kernel)) (fi_list (fe_v (pv 4))) (blkOk_by (own := [("a", 5)]) (N := N_less_lead) (sc := defScope s_less_lead) (by decide +kernel)) (fun _ _ _ _ _ => (pg_name (i := 5) sc_less_lead.nd rfl (Or.inl rfl))) (fun _ _ _ _ _ => fts_nil) (fun _ _ _ _ _ => (fe_un un_neg s_neg (fe_v (pv 5)))))) fss_nil)
    (fss_cons (fs_while 20 PassesOwn.never (PW.pt (fw_and (ft_cmp (op_neD hr.units) s_ne (fe_v (pv 4)) (fe_lst fa_nil) (nomark _)) (fw_and1 (ft_cmp (op_eqD hr.units) s_eq (fe_ix ixF s_ix (fe_v (pv 4)) (fe_un un_neg s_neg fe_int) (fun _ _ => rfl)) fe_int (nomark _))))) (fss_one (fs_pop (pv 4) (fun h1 => pe_bm0 PySem.F.plainAttrs_list PySem.F.slot_list_pop PySem.F.type_list_pop mt_pop h1))))
    (fss_one (fs_ret (fe_callTy call_tuple_of s_tuple (by rfl) B.tuple PyProof.Rows.boot_tuple (fa_cons (fe_v (pv 4)) fa_nil))))))))
theorem ok_is_on_left {f : Addr} {fd : FuncData} (F : Fun K "is_on_left" "is_on_left" s_is_on_left f fd) (hm : mg "is_on_left" = some (.ref f)) (B : Bi K mg) (G_odd_part : Fn P w K mg base "odd_part" 2 ["one"] m_odd_part) (G_even_part : Fn P w K mg base "even_part" 2 ["one"] m_even_part) (G_less_lead : Fn P w K mg base "less_lead" 1 ["first", "second", "shifted"] m_less_lead) : Fn P w K mg base "is_on_left" 3 ["one"] m_is_on_left :=
  fn_mk (h := h_is_on_left) (k := 2) F sc_is_on_left rfl rfl hm (F.binds fun _ _ _ _ _ _ us hl => match us, hl with | [_], _ => rfl) fun cdv A outer s H E hr =>
    (fss_cons (fs_if (ft_val (fe_callB (cr_any rfl) s_any (by rfl) B.any (by decide +kernel) (fa_cons (fe_comp (own := [("a", 4)]) (tg := (.one 4)) rfl sc_is_on_left.nd (fi_weak (fi_tup (fe_v (pv 0)))) (blkOk_by (own := [("a", 4)]) (N := N_is_on_left) (sc := defScope s_is_on_left) (by decide +kernel)) (fun _ _ _ _ _ => (pg_name (i := 4) sc_is_on_left.nd rfl (Or.inl rfl))) (fun _ _ _ _ _ => fts_nil) (fun _ _ _ _ _ => (fe_cmp op_le s_le (fe_op op_mulF s_mul (fe_v (pv 4)) (fe_ix ixF s_ix (fe_v (pv 0)) (fe_un un_neg s_neg fe_int) (fun _ _ => rfl))) fe_int (nomark _)))) fa_nil))) (fss_one (fs_ret fe_bl)) fss_nil)
    (fss_cons (fs_asg (tg := (.two 1 2)) (fe_if (ft_cmp (op_eqD hr.units) s_eq (fe_op op_modN s_mod (fe_callB call_len_seq s_len (by rfl) B.len PySem.boot_len (fa_cons (fe_v (pv 0)) fa_nil)) fe_int) fe_int (nomark _)) (fe_tup (fa_cons (fe_fn G_even_part (hr.mono (by decide)) (by rfl) (fa_cons (fe_v (pv 0)) fa_nil)) (fa_cons (fe_fn G_odd_part (hr.mono (by decide)) (by rfl) (fa_cons (fe_v (pv 0)) fa_nil)) fa_nil))) (fe_tup (fa_cons (fe_fn G_odd_part (hr.mono (by decide)) (by rfl) (fa_cons (fe_v (pv 0)) fa_nil)) (fa_cons (fe_fn G_even_part (hr.mono (by decide)) (by rfl) (fa_cons (fe_v (pv 0)) fa_nil)) fa_nil)))) (pg_tup rfl (pgs_cons (pg_name (i := 1) sc_is_on_left.nd rfl (Or.inl rfl)) (pgs_cons (pg_name (i := 2) sc_is_on_left.nd rfl (Or.inl rfl)) pgs_nil))))
    (fss_cons (fs_set (i := 3) sc_is_on_left.nd rfl (Or.inl rfl) (fe_cmp (op_eqD hr.units) s_eq (fe_op op_modN s_mod (fe_callB call_len_seq s_len (by rfl) B.len PySem.boot_len (fa_cons (fe_v (pv 0)) fa_nil)) fe_int) fe_int (nomark _)))
    (fss_cons (fs_while 20 PassesOwn.never (ft_cmp (op_neD hr.units) s_ne (fe_v (pv 2)) (fe_tup fa_nil) (nomark _)) (fss_cons (fs_if (PW.pt (fw_or (ft_cmp (op_neD hr.units) s_ne (fe_callB call_len_seq s_len (by rfl) B.len PySem.boot_len (fa_cons (fe_v (pv 2)) fa_nil)) (fe_if (ft_val (fe_v (pv 3))) (fe_op op_subF s_sub (fe_callB call_len_seq s_len (by rfl) B.len PySem.boot_len (fa_cons (fe_v (pv 1)) fa_nil)) fe_int) (fe_callB call_len_seq s_len (by rfl) B.len PySem.boot_len (fa_cons (fe_v (pv 1)) fa_nil))) (nomark _)) (fw_or1 (ft_cmp op_le s_le (fe_op op_mulF s_mul (fe_ix ixF s_ix (fe_v (pv 1)) (fe_un un_neg s_neg fe_int) (fun _ _ => rfl)) (fe_ix ixF s_ix (fe_v (pv 2)) (fe_un un_neg s_neg fe_int) (fun _ _ => rfl))) fe_int (nomark _))))) (fss_one (fs_ret fe_bl)) fss_nil)
    (fss_one (fs_par3 (i := 1) (j := 2) (l := 3) rfl sc_is_on_left.nd rfl rfl rfl (by decide) (by decide) (by decide) rfl rfl rfl (fe_v (pv 2)) (fe_fn G_less_lead (hr.mono (by decide)) (by rfl) (fa_cons (fe_v (pv 1)) (fa_cons (fe_v (pv 2)) (fa_cons (fe_v (pv 3)) fa_nil)))) (fe_not (fe_v (pv 3))) (by rfl)))))
    (fss_one (fs_ret (fe_cmp (op_eqD hr.units) s_eq (fe_callB call_len_seq s_len (by rfl) B.len PySem.boot_len (fa_cons (fe_v (pv 1)) fa_nil)) fe_int (nomark _))))))))
theorem ok_odd_roots {f : Addr} {fd : FuncData} (F : Fun K "odd_roots" "odd_roots" s_odd_roots f fd) (hm : mg "odd_roots" = some (.ref f)) (B : Bi K mg) (G_derivative : Fn P w K mg base "derivative" 2 ["one"] M_derivative) (G_common : Fn P w K mg base "common" 5 ["one", "other"] M_common) (G_quotient : Fn P w K mg base "quotient" 2 ["one", "other"] m_quotient) (G_poly_times : Fn P w K mg base "poly_times" 2 ["one", "other"] m_poly_times) : Fn P w K mg base "odd_roots" 6 ["one"] m_odd_roots :=
  fn_mk (h := h_odd_roots) (k := 5) F sc_odd_roots rfl rfl hm (F.binds fun _ _ _ _ _ _ us hl => match us, hl with | [_], _ => rfl) fun cdv A outer s H E hr =>
    (fss_cons (fs_par (i := 1) (j := 2) rfl sc_odd_roots.nd rfl rfl (by decide) rfl rfl (fe_tup (fa_cons fe_int fa_nil)) (fe_v (pv 0)) (by rfl))
    (fss_cons (fs_while 20 PassesOwn.never (ft_cmp op_gt s_gt (fe_callB call_len_seq s_len (by rfl) B.len PySem.boot_len (fa_cons (fe_v (pv 2)) fa_nil)) fe_int (nomark _)) (fss_cons (fs_set (i := 3) sc_odd_roots.nd rfl (Or.inl rfl) (fe_fn G_common (hr.mono (by decide)) (by rfl) (fa_cons (fe_v (pv 2)) (fa_cons (fe_fn G_derivative (hr.mono (by decide)) (by rfl) (fa_cons (fe_v (pv 2)) fa_nil)) fa_nil))))
    (fss_cons (fs_set (i := 4) sc_odd_roots.nd rfl (Or.inl rfl) (fe_fn G_quotient (hr.mono (by decide)) (by rfl) (fa_cons (fe_v (pv 2)) (fa_cons (fe_v (pv 3)) fa_nil))))
    (fss_cons (fs_set (i := 5) sc_odd_roots.nd rfl (Or.inl rfl) (fe_fn G_common (hr.mono (by decide)) (by rfl) (fa_cons (fe_v (pv 4)) (fa_cons (fe_v (pv 3)) fa_nil))))
    (fss_cons (fs_set (i := 1) sc_odd_roots.nd rfl (Or.inl rfl) (fe_fn G_poly_times (hr.mono (by decide)) (by rfl) (fa_cons (fe_v (pv 1)) (fa_cons (fe_fn G_quotient (hr.mono (by decide)) (by rfl) (fa_cons (fe_v (pv 4)) (fa_cons (fe_v (pv 5)) fa_nil))) fa_nil))))
    (fss_one (fs_set (i := 2) sc_odd_roots.nd rfl (Or.inl rfl) (fe_fn G_quotient (hr.mono (by decide)) (by rfl) (fa_cons (fe_v (pv 3)) (fa_cons (fe_v (pv 5)) fa_nil))))))))))
    (fss_one (fs_ret (fe_v (pv 1))))))
theorem ok_is_at_least_zero {f : Addr} {fd : FuncData} (F : Fun K "is_at_least_zero" "is_at_least_zero" s_is_at_least_zero f fd) (hm : mg "is_at_least_zero" = some (.ref f)) (B : Bi K mg) (G_ordered : Fn P w K mg base "ordered" 1 ["one"] m_ordered) (G_odd_roots : Fn P w K mg base "odd_roots" 6 ["one"] m_odd_roots) (G_roots_in : Fn P w K mg base "roots_in" 6 ["one", "low", "high"] m_roots_in) : Fn P w K mg base "is_at_least_zero" 7 ["one"] m_is_at_least_zero :=
  fn_mk (h := h_is_at_least_zero) (k := 6) F sc_is_at_least_zero rfl rfl hm (F.binds fun _ _ _ _ _ _ us hl => match us, hl with | [_], _ => rfl) fun cdv A outer s H E hr =>
    (fss_cons (fs_if (ft_cmp (op_eqD hr.units) s_eq (fe_v (pv 0)) (fe_tup fa_nil) (nomark _)) (fss_one (fs_ret fe_bl)) fss_nil)
    (fss_cons (fs_if (PW.pt (fw_or (ft_cmp op_lt s_lt (fe_ix ixF s_ix (fe_v (pv 0)) (fe_un un_neg s_neg fe_int) (fun _ _ => rfl)) fe_int (nomark _)) (fw_or1 (ft_cmp op_lt s_lt (fe_ix ixF s_ix (fe_v (pv 0)) (fe_fn G_ordered (hr.mono (by decide)) (by rfl) (fa_cons (fe_v (pv 0)) fa_nil)) (fun _ _ => rfl)) fe_int (nomark _))))) (fss_one (fs_ret fe_bl)) fss_nil)
    (fss_one (fs_ret (fe_cmp (op_eqD hr.units) s_eq (fe_fn G_roots_in (hr.mono (by decide)) (by rfl) (fa_cons (fe_fn G_odd_roots (hr.mono (by decide)) (by rfl) (fa_cons (fe_slice slF s_sl (fe_v (pv 0)) (fo_some (fe_fn G_ordered (hr.mono (by decide)) (by rfl) (fa_cons (fe_v (pv 0)) fa_nil))) fo_none) fa_nil)) (fa_cons (fe_tup (fa_cons fe_int (fa_cons fe_int fa_nil))) (fa_cons fe_non fa_nil)))) fe_int (nomark _))))))
theorem ok_alternating {f : Addr} {fd : FuncData} (F : Fun K "alternating" "alternating" s_alternating f fd) (hm : mg "alternating" = some (.ref f)) (B : Bi K mg) (G_flipped : Fn P w K mg base "flipped" 1 ["one"] m_flipped) : Fn P w K mg base "alternating" 2 ["one"] m_alternating :=
  fn_mk (h := h_alternating) (k := 1) F sc_alternating rfl rfl hm (F.binds fun _ _ _ _ _ _ us hl => match us, hl with | [_], _ => rfl) fun cdv A outer s H E hr =>
    (fss_one (fs_ret (fe_fn G_flipped (hr.mono (by decide)) (by rfl) (fa_cons (fe_v (pv 0)) fa_nil))))
end
end FT
end -- GD3
section -- GD4
set_option Elab.async false
set_option linter.all false
set_option maxRecDepth 100000
set_option maxHeartbeats 4000000
namespace FT
open PySem PySem.Spec PyProof.Rows L2 FL
section
variable {P : Program} {w : World} {K : PySem.W.Frag} {mg : Str → Option Value} {base : Heap}
theorem ok_real_top {f : Addr} {fd : FuncData} (F : Fun K "real_top" "real_top" s_real_top f fd) (hm : mg "real_top" = some (.ref f)) (B : Bi K mg) (G_even_part : Fn P w K mg base "even_part" 2 ["one"] m_even_part) (G_poly_times : Fn P w K mg base "poly_times" 2 ["one", "other"] m_poly_times) (G_odd_part : Fn P w K mg base "odd_part" 2 ["one"] m_odd_part) (G_poly_minus : Fn P w K mg base "poly_minus" 3 ["one", "other"] M_poly_minus) (G_alternating : Fn P w K mg base "alternating" 2 ["one"] m_alternating) : Fn P w K mg base "real_top" 4 ["top", "bottom"] m_real_top :=
  fn_mk (h := h_real_top) (k := 3) F sc_real_top rfl rfl hm (F.binds fun _ _ _ _ _ _ us hl => match us, hl with | [_, _], _ => rfl) fun cdv A outer s H E hr =>
    (fss_cons (fs_set (i := 2) sc_real_top.nd rfl (Or.inl rfl) (fe_fn G_poly_times (hr.mono (by decide)) (by rfl) (fa_cons (fe_fn G_even_part (hr.mono (by decide)) (by rfl) (fa_cons (fe_v (pv 0)) fa_nil)) (fa_cons (fe_fn G_even_part (hr.mono (by decide)) (by rfl) (fa_cons (fe_v (pv 1)) fa_nil)) fa_nil))))
    (fss_cons (fs_set (i := 3) sc_real_top.nd rfl (Or.inl rfl) (fe_fn G_poly_times (hr.mono (by decide)) (by rfl) (fa_cons (fe_tup (fa_cons fe_int (fa_star (fe_fn G_odd_part (hr.mono (by decide)) (by rfl) (fa_cons (fe_v (pv 0)) fa_nil)) fa_nil))) (fa_cons (fe_tup (fa_cons fe_int (fa_star (fe_fn G_odd_part (hr.mono (by decide)) (by rfl) (fa_cons (fe_v (pv 1)) fa_nil)) fa_nil))) fa_nil))))
    (fss_cons (fs_set (i := 3) sc_real_top.nd rfl (Or.inl rfl) (fe_slice slF s_sl (fe_v (pv 3)) (fo_some fe_int) fo_none))
    (fss_one (fs_ret (fe_fn G_alternating (hr.mono (by decide)) (by rfl) (fa_cons (fe_fn G_poly_minus (hr.mono (by decide)) (by rfl) (fa_cons (fe_v (pv 2)) (fa_cons (fe_v (pv 3)) fa_nil))) fa_nil)))))))
theorem ok_is_good_on_axis {f : Addr} {fd : FuncData} (F : Fun K "is_good_on_axis" "is_good_on_axis" s_is_good_on_axis f fd) (hm : mg "is_good_on_axis" = some (.ref f)) (B : Bi K mg) (G_real_top : Fn P w K mg base "real_top" 4 ["top", "bottom"] m_real_top) (G_is_at_least_zero : Fn P w K mg base "is_at_least_zero" 7 ["one"] m_is_at_least_zero) : Fn P w K mg base "is_good_on_axis" 8 ["one"] m_is_good_on_axis :=
  fn_mk (h := h_is_good_on_axis) (k := 7) F sc_is_good_on_axis rfl rfl hm (F.binds fun _ _ _ _ _ _ us hl => match us, hl with | [_], _ => rfl) fun cdv A outer s H E hr =>
    (fss_one (fs_ret (fe_fn G_is_at_least_zero (hr.mono (by decide)) (by rfl) (fa_cons (fe_fn G_real_top (hr.mono (by decide)) (by rfl) (fa_cons (fe_ix ixF s_ix (fe_v (pv 0)) fe_int (fun _ _ => rfl)) (fa_cons (fe_ix ixF s_ix (fe_v (pv 0)) fe_int (fun _ _ => rfl)) fa_nil))) fa_nil))))
theorem ok_positive {f : Addr} {fd : FuncData} (F : Fun K "positive" "positive" s_positive f fd) (hm : mg "positive" = some (.ref f)) (B : Bi K mg) (G_poly_plus : Fn P w K mg base "poly_plus" 2 ["one", "other"] M_poly_plus) (G_is_on_left : Fn P w K mg base "is_on_left" 3 ["one"] m_is_on_left) (G_is_good_on_axis : Fn P w K mg base "is_good_on_axis" 8 ["one"] m_is_good_on_axis) : Fn P w K mg base "positive" 9 ["one"] m_positive :=
  fn_mk (h := h_positive) (k := 8) F sc_positive rfl rfl hm (F.binds fun _ _ _ _ _ _ us hl => match us, hl with | [_], _ => rfl) fun cdv A outer s H E hr =>
    (fss_cons (fs_set (i := 1) sc_positive.nd rfl (Or.inl rfl) (fe_fn G_poly_plus (hr.mono (by decide)) (by rfl) (fa_cons (fe_ix ixF s_ix (fe_v (pv 0)) fe_int (fun _ _ => rfl)) (fa_cons (fe_ix ixF s_ix (fe_v (pv 0)) fe_int (fun _ _ => rfl)) fa_nil))))
    (fss_one (fs_ret (fe_and (fe_cmp (op_neD hr.units) s_ne (fe_v (pv 1)) (fe_tup fa_nil) (nomark _)) (fe_and (fe_fn G_is_on_left (hr.mono (by decide)) (by rfl) (fa_cons (fe_v (pv 1)) fa_nil)) (fe_one (fe_fn G_is_good_on_axis (hr.mono (by decide)) (by rfl) (fa_cons (fe_v (pv 0)) fa_nil))))))))
theorem ok_axis_factor {f : Addr} {fd : FuncData} (F : Fun K "axis_factor" "axis_factor" s_axis_factor f fd) (hm : mg "axis_factor" = some (.ref f)) (B : Bi K mg) (G_ordered : Fn P w K mg base "ordered" 1 ["one"] m_ordered) (G_odd_part : Fn P w K mg base "odd_part" 2 ["one"] m_odd_part) (G_even_part : Fn P w K mg base "even_part" 2 ["one"] m_even_part) (G_common : Fn P w K mg base "common" 5 ["one", "other"] M_common) : Fn P w K mg base "axis_factor" 6 ["one"] m_axis_factor :=
  fn_mk (h := h_axis_factor) (k := 5) F sc_axis_factor rfl rfl hm (F.binds fun _ _ _ _ _ _ us hl => match us, hl with | [_], _ => rfl) fun cdv A outer s H E hr =>
    (fss_cons (fs_set (i := 1) sc_axis_factor.nd rfl (Or.inl rfl) (fe_fn G_ordered (hr.mono (by decide)) (by rfl) (fa_cons (fe_v (pv 0)) fa_nil)))
    (fss_cons (fs_set (i := 2) sc_axis_factor.nd rfl (Or.inl rfl) (fe_slice slF s_sl (fe_v (pv 0)) (fo_some (fe_v (pv 1))) fo_none))
    (fss_one (fs_ret (fe_tup (fa_cons (fe_v (pv 1)) (fa_cons (fe_fn G_common (hr.mono (by decide)) (by rfl) (fa_cons (fe_fn G_even_part (hr.mono (by decide)) (by rfl) (fa_cons (fe_v (pv 2)) fa_nil)) (fa_cons (fe_fn G_odd_part (hr.mono (by decide)) (by rfl) (fa_cons (fe_v (pv 2)) fa_nil)) fa_nil))) fa_nil)))))))
theorem ok_is_odd {f : Addr} {fd : FuncData} (F : Fun K "is_odd" "is_odd" s_is_odd f fd) (hm : mg "is_odd" = some (.ref f)) (B : Bi K mg) (G_flipped : Fn P w K mg base "flipped" 1 ["one"] m_flipped) (G_poly_times : Fn P w K mg base "poly_times" 2 ["one", "other"] m_poly_times) (G_scaled : Fn P w K mg base "scaled" 2 ["one", "factor"] M_scaled) : Fn P w K mg base "is_odd" 3 ["one"] m_is_odd :=
  fn_mk (h := h_is_odd) (k := 2) F sc_is_odd rfl rfl hm (F.binds fun _ _ _ _ _ _ us hl => match us, hl with | [_], _ => rfl) fun cdv A outer s H E hr =>
    (fss_cons (fs_set (i := 1) sc_is_odd.nd rfl (Or.inl rfl) (fe_tup (fa_cons (fe_fn G_flipped (hr.mono (by decide)) (by rfl) (fa_cons (fe_ix ixF s_ix (fe_v (pv 0)) fe_int (fun _ _ => rfl)) fa_nil)) (fa_cons (fe_fn G_flipped (hr.mono (by decide)) (by rfl) (fa_cons (fe_ix ixF s_ix (fe_v (pv 0)) fe_int (fun _ _ => rfl)) fa_nil)) fa_nil))))
    (fss_one (fs_ret (fe_cmp (op_eqD hr.units) s_eq (fe_fn G_poly_times (hr.mono (by decide)) (by rfl) (fa_cons (fe_ix ixF s_ix (fe_v (pv 1)) fe_int (fun _ _ => rfl)) (fa_cons (fe_ix ixF s_ix (fe_v (pv 0)) fe_int (fun _ _ => rfl)) fa_nil))) (fe_fn G_scaled (hr.mono (by decide)) (by rfl) (fa_cons (fe_fn G_poly_times (hr.mono (by decide)) (by rfl) (fa_cons (fe_ix ixF s_ix (fe_v (pv 0)) fe_int (fun _ _ => rfl)) (fa_cons (fe_ix ixF s_ix (fe_v (pv 1)) fe_int (fun _ _ => rfl)) fa_nil))) (fa_cons (fe_un un_neg s_neg fe_int) fa_nil))) (nomark _)))))
theorem ok_lossless {f : Addr} {fd : FuncData} (F : Fun K "lossless" "lossless" s_lossless f fd) (hm : mg "lossless" = some (.ref f)) (B : Bi K mg) (G_is_odd : Fn P w K mg base "is_odd" 3 ["one"] m_is_odd) (G_positive : Fn P w K mg base "positive" 9 ["one"] m_positive) : Fn P w K mg base "lossless" 10 ["one"] m_lossless :=
  fn_mk (h := h_lossless) (k := 9) F sc_lossless rfl rfl hm (F.binds fun _ _ _ _ _ _ us hl => match us, hl with | [_], _ => rfl) fun cdv A outer s H E hr =>
    (fss_one (fs_ret (fe_or (fe_cmp (op_eqD hr.units) s_eq (fe_v (pv 0)) (fe_zero B (by rfl)) (nomark _)) (fe_one (fe_and (fe_fn G_is_odd (hr.mono (by decide)) (by rfl) (fa_cons (fe_v (pv 0)) fa_nil)) (fe_one (fe_fn G_positive (hr.mono (by decide)) (by rfl) (fa_cons (fe_v (pv 0)) fa_nil))))))))
theorem ok_is_lossless {f : Addr} {fd : FuncData} (F : Fun K "is_lossless" "is_lossless" s_is_lossless f fd) (hm : mg "is_lossless" = some (.ref f)) (B : Bi K mg) (G_need_function : Fn P w K mg base "need_function" 8 ["value"] m_need_function) (G_lossless : Fn P w K mg base "lossless" 10 ["one"] m_lossless) : Fn P w K mg base "is_lossless" 11 ["one"] m_is_lossless :=
  fn_mk (h := h_is_lossless) (k := 10) F sc_is_lossless rfl rfl hm (F.binds fun _ _ _ _ _ _ us hl => match us, hl with | [_], _ => rfl) fun cdv A outer s H E hr =>
    (fss_cons (fs_expr (fe_fn G_need_function (hr.mono (by decide)) (by rfl) (fa_cons (fe_v (pv 0)) fa_nil)))
    (fss_one (fs_ret (fe_fn G_lossless (hr.mono (by decide)) (by rfl) (fa_cons (fe_v (pv 0)) fa_nil)))))
theorem ok_far_of {f : Addr} {fd : FuncData} (F : Fun K "far_of" "far_of" s_far_of f fd) (hm : mg "far_of" = some (.ref f)) (B : Bi K mg) (G_ratio : Fn P w K mg base "ratio" 1 ["top", "bottom"] M_ratio) : Fn P w K mg base "far_of" 2 ["one"] m_far_of :=
  fn_mk (h := h_far_of) (k := 1) F sc_far_of rfl rfl hm (F.binds fun _ _ _ _ _ _ us hl => match us, hl with | [_], _ => rfl) fun cdv A outer s H E hr =>
    (fss_one (fs_ret (fe_if (ft_cmp op_gt s_gt (fe_callB call_len_seq s_len (by rfl) B.len PySem.boot_len (fa_cons (fe_ix ixF s_ix (fe_v (pv 0)) fe_int (fun _ _ => rfl)) fa_nil)) (fe_callB call_len_seq s_len (by rfl) B.len PySem.boot_len (fa_cons (fe_ix ixF s_ix (fe_v (pv 0)) fe_int (fun _ _ => rfl)) fa_nil)) (nomark _)) (fe_fn G_ratio (hr.mono (by decide)) (by rfl) (fa_cons (fe_ix ixF s_ix (fe_ix ixF s_ix (fe_v (pv 0)) fe_int (fun _ _ => rfl)) (fe_un un_neg s_neg fe_int) (fun _ _ => rfl)) (fa_cons (fe_ix ixF s_ix (fe_ix ixF s_ix (fe_v (pv 0)) fe_int (fun _ _ => rfl)) (fe_un un_neg s_neg fe_int) (fun _ _ => rfl)) fa_nil))) (fe_tup (fa_cons fe_int (fa_cons fe_int fa_nil))))))
theorem ok_near_of {f : Addr} {fd : FuncData} (F : Fun K "near_of" "near_of" s_near_of f fd) (hm : mg "near_of" = some (.ref f)) (B : Bi K mg) (G_ratio : Fn P w K mg base "ratio" 1 ["top", "bottom"] M_ratio) : Fn P w K mg base "near_of" 2 ["one"] m_near_of :=
  fn_mk (h := h_near_of) (k := 1) F sc_near_of rfl rfl hm (F.binds fun _ _ _ _ _ _ us hl => match us, hl with | [_], _ => rfl) fun cdv A outer s H E hr =>
    (fss_one (fs_ret (fe_if (ft_cmp (op_eqD hr.units) s_eq (fe_ix ixF s_ix (fe_ix ixF s_ix (fe_v (pv 0)) fe_int (fun _ _ => rfl)) fe_int (fun _ _ => rfl)) fe_int (nomark _)) (fe_fn G_ratio (hr.mono (by decide)) (by rfl) (fa_cons (fe_ix ixF s_ix (fe_ix ixF s_ix (fe_v (pv 0)) fe_int (fun _ _ => rfl)) fe_int (fun _ _ => rfl)) (fa_cons (fe_ix ixF s_ix (fe_ix ixF s_ix (fe_v (pv 0)) fe_int (fun _ _ => rfl)) fe_int (fun _ _ => rfl)) fa_nil))) (fe_tup (fa_cons fe_int (fa_cons fe_int fa_nil))))))
theorem ok_root_in {f : Addr} {fd : FuncData} (F : Fun K "root_in" "root_in" s_root_in f fd) (hm : mg "root_in" = some (.ref f)) (B : Bi K mg) (G_minus : Fn P w K mg base "minus" 2 ["one", "other"] M_minus) (G_ratio : Fn P w K mg base "ratio" 1 ["top", "bottom"] M_ratio) (G_roots_in : Fn P w K mg base "roots_in" 6 ["one", "low", "high"] m_roots_in) (G_is_less : Fn P w K mg base "is_less" 1 ["one", "other"] m_is_less) (G_value_of : Fn P w K mg base "value_of" 3 ["one", "told"] M_value_of) : Fn P w K mg base "root_in" 7 ["one", "low", "high"] m_root_in :=
  fn_mk (h := h_root_in) (k := 6) F sc_root_in rfl rfl hm (F.binds fun _ _ _ _ _ _ us hl => match us, hl with | [_, _, _], _ => rfl) fun cdv A outer s H E hr =>
    (fss_cons (fs_set (i := 3) sc_root_in.nd rfl (Or.inl rfl) (fe_callB call_abs s_abs (by rfl) B.abs (by decide +kernel) (fa_cons (fe_ix ixF s_ix (fe_v (pv 0)) (fe_un un_neg s_neg fe_int) (fun _ _ => rfl)) fa_nil)))
    (fss_cons (fs_while 100 PassesOwn.never (ft_cmp op_gt s_gt (fe_op op_mulF s_mul (fe_op op_mulF s_mul (fe_ix ixF s_ix (fe_fn G_minus (hr.mono (by decide)) (by rfl) (fa_cons (fe_v (pv 2)) (fa_cons (fe_v (pv 1)) fa_nil))) fe_int (fun _ _ => rfl)) fe_int) (fe_v (pv 3))) (fe_ix ixF s_ix (fe_fn G_minus (hr.mono (by decide)) (by rfl) (fa_cons (fe_v (pv 2)) (fa_cons (fe_v (pv 1)) fa_nil))) fe_int (fun _ _ => rfl)) (nomark _)) (fss_cons (fs_set (i := 4) sc_root_in.nd rfl (Or.inl rfl) (fe_fn G_ratio (hr.mono (by decide)) (by rfl) (fa_cons (fe_op op_add s_add (fe_op op_mulF s_mul (fe_ix ixF s_ix (fe_v (pv 1)) fe_int (fun _ _ => rfl)) (fe_ix ixF s_ix (fe_v (pv 2)) fe_int (fun _ _ => rfl))) (fe_op op_mulF s_mul (fe_ix ixF s_ix (fe_v (pv 2)) fe_int (fun _ _ => rfl)) (fe_ix ixF s_ix (fe_v (pv 1)) fe_int (fun _ _ => rfl)))) (fa_cons (fe_op op_mulF s_mul (fe_op op_mulF s_mul fe_int (fe_ix ixF s_ix (fe_v (pv 1)) fe_int (fun _ _ => rfl))) (fe_ix ixF s_ix (fe_v (pv 2)) fe_int (fun _ _ => rfl))) fa_nil))))
    (fss_one (fs_if (ft_cmp (op_eqD hr.units) s_eq (fe_fn G_roots_in (hr.mono (by decide)) (by rfl) (fa_cons (fe_v (pv 0)) (fa_cons (fe_v (pv 1)) (fa_cons (fe_v (pv 4)) fa_nil)))) fe_int (nomark _)) (fss_one (fs_set (i := 2) sc_root_in.nd rfl (Or.inl rfl) (fe_v (pv 4)))) (fss_one (fs_set (i := 1) sc_root_in.nd rfl (Or.inl rfl) (fe_v (pv 4))))))))
    (fss_cons (fs_set (i := 5) sc_root_in.nd rfl (Or.inl rfl) (fe_fn G_ratio (hr.mono (by decide)) (by rfl) (fa_cons (fe_op op_fdivN s_div (fe_op op_mulF s_mul (fe_ix ixF s_ix (fe_v (pv 2)) fe_int (fun _ _ => rfl)) (fe_v (pv 3))) (fe_ix ixF s_ix (fe_v (pv 2)) fe_int (fun _ _ => rfl))) (fa_cons (fe_v (pv 3)) fa_nil))))
    (fss_cons (fs_if (PW.pt (fw_and (ft_val (fe_fn G_is_less (hr.mono (by decide)) (by rfl) (fa_cons (fe_v (pv 1)) (fa_cons (fe_v (pv 5)) fa_nil)))) (fw_and1 (ft_cmp (op_eqD hr.units) s_eq (fe_ix ixF s_ix (fe_fn G_value_of (hr.mono (by decide)) (by rfl) (fa_cons (fe_v (pv 0)) (fa_cons (fe_v (pv 5)) fa_nil))) fe_int (fun _ _ => rfl)) fe_int (nomark _))))) (fss_one (fs_ret (fe_v (pv 5)))) fss_nil)
    (fss_one (fs_ret fe_non))))))
end
end FT
end -- GD4
section -- GD5
set_option Elab.async false
set_option linter.all false
set_option maxRecDepth 100000
set_option maxHeartbeats 4000000
namespace FT
open PySem PySem.Spec PyProof.Rows L2 FL
section
variable {P : Program} {w : World} {K : PySem.W.Frag} {mg : Str → Option Value} {base : Heap}
theorem ok_rational_roots {f : Addr} {fd : FuncData} (F : Fun K "rational_roots" "rational_roots" s_rational_roots f fd) (hm : mg "rational_roots" = some (.ref f)) (B : Bi K mg) (G_roots_in : Fn P w K mg base "roots_in" 6 ["one", "low", "high"] m_roots_in) (G_times : Fn P w K mg base "times" 2 ["one", "other"] M_times) (G_root_in : Fn P w K mg base "root_in" 7 ["one", "low", "high"] m_root_in) (G_ratio : Fn P w K mg base "ratio" 1 ["top", "bottom"] M_ratio) : Fn P w K mg base "rational_roots" 8 ["one"] m_rational_roots :=
  fn_mk (h := h_rational_roots) (k := 7) F sc_rational_roots rfl rfl hm (F.binds fun _ _ _ _ _ _ us hl => match us, hl with | [_], _ => rfl) fun cdv A outer s H E hr =>
    (fss_cons (fs_par (i := 1) (j := 2) rfl sc_rational_roots.nd rfl rfl (by decide) rfl rfl (fe_tup (fa_cons fe_int (fa_cons fe_int fa_nil))) (fe_lst fa_nil) (by rfl))
    (fss_cons (fs_while 100 PassesOwn.never (ft_cmp op_gt s_gt (fe_fn G_roots_in (hr.mono (by decide)) (by rfl) (fa_cons (fe_v (pv 0)) (fa_cons (fe_v (pv 1)) (fa_cons fe_non fa_nil)))) fe_int (nomark _)) (fss_one (fs_set (i := 1) sc_rational_roots.nd rfl (Or.inl rfl) (fe_fn G_times (hr.mono (by decide)) (by rfl) (fa_cons (fe_v (pv 1)) (fa_cons (fe_tup (fa_cons fe_int (fa_cons fe_int fa_nil))) fa_nil))))))
    (fss_cons (fs_set (i := 3) sc_rational_roots.nd rfl (Or.inl rfl) (fe_lst (fa_cons (fe_tup (fa_cons (fe_tup (fa_cons fe_int (fa_cons fe_int fa_nil))) (fa_cons (fe_v (pv 1)) fa_nil))) fa_nil)))
    (fss_cons (fs_while 100 PassesOwn.never (ft_cmp (op_neD hr.units) s_ne (fe_v (pv 3)) (fe_lst fa_nil) (nomark _)) (fss_cons (fs_pop0 (tg := (.two 4 1)) (pv 3) (pg_tup rfl (pgs_cons (pg_name (i := 4) sc_rational_roots.nd rfl (Or.inl rfl)) (pgs_cons (pg_name (i := 1) sc_rational_roots.nd rfl (Or.inl rfl)) pgs_nil))) (fun h1 h2 => pe_bm PySem.F.plainAttrs_list PySem.F.slot_list_pop PySem.F.type_list_pop mt_popAt h1 h2))
    (fss_cons (fs_set (i := 5) sc_rational_roots.nd rfl (Or.inl rfl) (fe_fn G_roots_in (hr.mono (by decide)) (by rfl) (fa_cons (fe_v (pv 0)) (fa_cons (fe_v (pv 4)) (fa_cons (fe_v (pv 1)) fa_nil)))))
    (fss_one (fs_if (ft_cmp (op_eqD hr.units) s_eq (fe_v (pv 5)) fe_int (nomark _)) (fss_one (fs_append (pv 2) (fe_fn G_root_in (hr.mono (by decide)) (by rfl) (fa_cons (fe_v (pv 0)) (fa_cons (fe_v (pv 4)) (fa_cons (fe_v (pv 1)) fa_nil)))) (fun h1 h2 => pe_bm PySem.F.plainAttrs_list PySem.F.slot_list_append PySem.F.type_list_append mt_append h1 h2))) (fss_one (fs_if (ft_cmp op_gt s_gt (fe_v (pv 5)) fe_int (nomark _)) (fss_cons (fs_set (i := 6) sc_rational_roots.nd rfl (Or.inl rfl) (fe_fn G_ratio (hr.mono (by decide)) (by rfl) (fa_cons (fe_op op_add s_add (fe_op op_mulF s_mul (fe_ix ixF s_ix (fe_v (pv 4)) fe_int (fun _ _ => rfl)) (fe_ix ixF s_ix (fe_v (pv 1)) fe_int (fun _ _ => rfl))) (fe_op op_mulF s_mul (fe_ix ixF s_ix (fe_v (pv 1)) fe_int (fun _ _ => rfl)) (fe_ix ixF s_ix (fe_v (pv 4)) fe_int (fun _ _ => rfl)))) (fa_cons (fe_op op_mulF s_mul (fe_op op_mulF s_mul fe_int (fe_ix ixF s_ix (fe_v (pv 4)) fe_int (fun _ _ => rfl))) (fe_ix ixF s_ix (fe_v (pv 1)) fe_int (fun _ _ => rfl))) fa_nil))))
    (fss_one (fs_set (i := 3) sc_rational_roots.nd rfl (Or.inl rfl) (fe_lst (fa_cons (fe_tup (fa_cons (fe_v (pv 4)) (fa_cons (fe_v (pv 6)) fa_nil))) (fa_cons (fe_tup (fa_cons (fe_v (pv 6)) (fa_cons (fe_v (pv 1)) fa_nil))) (fa_star (fe_v (pv 3)) fa_nil))))))) fss_nil)))))))
    (fss_one (fs_ret (fe_if (ft_cmp (op_inD (hr65 hr)) s_in fe_non (fe_v (pv 2)) (by rfl)) fe_non (fe_v (pv 2)))))))))
theorem ok_limit_at {f : Addr} {fd : FuncData} (F : Fun K "limit_at" "limit_at" s_limit_at f fd) (hm : mg "limit_at" = some (.ref f)) (B : Bi K mg) (G_value_of : Fn P w K mg base "value_of" 3 ["one", "told"] M_value_of) (G_derivative : Fn P w K mg base "derivative" 2 ["one"] M_derivative) (G_over : Fn P w K mg base "over" 2 ["one", "other"] M_over) (G_times : Fn P w K mg base "times" 2 ["one", "other"] M_times) : Fn P w K mg base "limit_at" 4 ["one", "square"] m_limit_at :=
  fn_mk (h := h_limit_at) (k := 3) F sc_limit_at rfl rfl hm (F.binds fun _ _ _ _ _ _ us hl => match us, hl with | [_, _], _ => rfl) fun cdv A outer s H E hr =>
    (fss_cons (fs_set (i := 2) sc_limit_at.nd rfl (Or.inl rfl) (fe_tup (fa_cons (fe_un un_neg s_neg (fe_ix ixF s_ix (fe_v (pv 1)) fe_int (fun _ _ => rfl))) (fa_cons (fe_ix ixF s_ix (fe_v (pv 1)) fe_int (fun _ _ => rfl)) fa_nil))))
    (fss_cons (fs_if (ft_cmp (op_eqD hr.units) s_eq (fe_ix ixF s_ix (fe_ix ixF s_ix (fe_v (pv 0)) fe_int (fun _ _ => rfl)) fe_int (fun _ _ => rfl)) fe_int (nomark _)) (fss_cons (fs_set (i := 3) sc_limit_at.nd rfl (Or.inl rfl) (fe_fn G_value_of (hr.mono (by decide)) (by rfl) (fa_cons (fe_step (fe_ix ixF s_ix (fe_v (pv 0)) fe_int (fun _ _ => rfl)) (fo_some fe_int) fo_none (fo_some fe_int)) (fa_cons (fe_v (pv 2)) fa_nil))))
    (fss_one (fs_ret (fe_fn G_over (hr.mono (by decide)) (by rfl) (fa_cons (fe_v (pv 3)) (fa_cons (fe_fn G_value_of (hr.mono (by decide)) (by rfl) (fa_cons (fe_fn G_derivative (hr.mono (by decide)) (by rfl) (fa_cons (fe_step (fe_ix ixF s_ix (fe_v (pv 0)) fe_int (fun _ _ => rfl)) fo_none fo_none (fo_some fe_int)) fa_nil)) (fa_cons (fe_v (pv 2)) fa_nil))) fa_nil)))))) fss_nil)
    (fss_cons (fs_par (i := 3) (j := 4) rfl sc_limit_at.nd rfl rfl (by decide) rfl rfl (fe_fn G_value_of (hr.mono (by decide)) (by rfl) (fa_cons (fe_step (fe_ix ixF s_ix (fe_v (pv 0)) fe_int (fun _ _ => rfl)) fo_none fo_none (fo_some fe_int)) (fa_cons (fe_v (pv 2)) fa_nil))) (fe_fn G_value_of (hr.mono (by decide)) (by rfl) (fa_cons (fe_fn G_derivative (hr.mono (by decide)) (by rfl) (fa_cons (fe_step (fe_ix ixF s_ix (fe_v (pv 0)) fe_int (fun _ _ => rfl)) (fo_some fe_int) fo_none (fo_some fe_int)) fa_nil)) (fa_cons (fe_v (pv 2)) fa_nil))) (by rfl))
    (fss_one (fs_ret (fe_fn G_over (hr.mono (by decide)) (by rfl) (fa_cons (fe_v (pv 3)) (fa_cons (fe_fn G_times (hr.mono (by decide)) (by rfl) (fa_cons (fe_v (pv 2)) (fa_cons (fe_v (pv 4)) fa_nil))) fa_nil))))))))
theorem ok_tank_parts {f : Addr} {fd : FuncData} (F : Fun K "tank_parts" "tank_parts" s_tank_parts f fd) (hm : mg "tank_parts" = some (.ref f)) (B : Bi K mg) (G_need_function : Fn P w K mg base "need_function" 8 ["value"] m_need_function) (G_lossless : Fn P w K mg base "lossless" 10 ["one"] m_lossless) (G_axis_factor : Fn P w K mg base "axis_factor" 6 ["one"] m_axis_factor) (G_flipped : Fn P w K mg base "flipped" 1 ["one"] m_flipped) (G_rational_roots : Fn P w K mg base "rational_roots" 8 ["one"] m_rational_roots) (G_limit_at : Fn P w K mg base "limit_at" 4 ["one", "square"] m_limit_at) (G_near_of : Fn P w K mg base "near_of" 2 ["one"] m_near_of) (G_far_of : Fn P w K mg base "far_of" 2 ["one"] m_far_of) : Fn P w K mg base "tank_parts" 11 ["one"] m_tank_parts :=
  fn_mk (h := h_tank_parts) (k := 10) F sc_tank_parts rfl rfl hm (F.binds fun _ _ _ _ _ _ us hl => match us, hl with | [_], _ => rfl) fun cdv A outer s H E hr =>
    (fss_cons (fs_expr (fe_fn G_need_function (hr.mono (by decide)) (by rfl) (fa_cons (fe_v (pv 0)) fa_nil)))
    (fss_cons (fs_if (ft_not (ft_val (fe_fn G_lossless (hr.mono (by decide)) (by rfl) (fa_cons (fe_v (pv 0)) fa_nil)))) (fss_one fs_never) fss_nil)
    (fss_cons (fs_if (ft_cmp (op_eqD hr.units) s_eq (fe_v (pv 0)) (fe_zero B (by rfl)) (nomark _)) (fss_one (fs_ret (fe_tup (fa_cons (fe_tup (fa_cons fe_int (fa_cons fe_int fa_nil))) (fa_cons (fe_tup (fa_cons fe_int (fa_cons fe_int fa_nil))) (fa_cons (fe_tup fa_nil) fa_nil)))))) fss_nil)
    (fss_cons (fs_asg (tg := (.two 1 2)) (fe_fn G_axis_factor (hr.mono (by decide)) (by rfl) (fa_cons (fe_ix ixF s_ix (fe_v (pv 0)) fe_int (fun _ _ => rfl)) fa_nil)) (pg_tup rfl (pgs_cons (pg_name (i := 1) sc_tank_parts.nd rfl (Or.inl rfl)) (pgs_cons (pg_name (i := 2) sc_tank_parts.nd rfl (Or.inl rfl)) pgs_nil))))
    (fss_cons (fs_set (i := 3) sc_tank_parts.nd rfl (Or.inl rfl) (fe_if (ft_cmp op_gt s_gt (fe_callB call_len_seq s_len (by rfl) B.len PySem.boot_len (fa_cons (fe_v (pv 2)) fa_nil)) fe_int (nomark _)) (fe_fn G_rational_roots (hr.mono (by decide)) (by rfl) (fa_cons (fe_fn G_flipped (hr.mono (by decide)) (by rfl) (fa_cons (fe_v (pv 2)) fa_nil)) fa_nil)) (fe_lst fa_nil)))
    (fss_cons (fs_if (ft_cmp op_isN s_isN (fe_v (pv 3)) fe_non (nomark _)) (fss_one (fs_ret fe_non)) fss_nil)
    (fss_cons (fs_setLc (i := 4) (own := [("square", 5)]) (tg := (.one 5)) rfl sc_tank_parts.nd rfl rfl (sw_true rfl rfl rfl (by decide +kernel)) (fi_list (fe_v (pv 3))) (blkOk_by (own := [("square", 5)]) (N := N_tank_parts) (sc := defScope s_tank_parts) (by decide +kernel)) (fun _ _ _ _ _ => (pg_name (i := 5) sc_tank_parts.nd rfl (Or.inl rfl))) (fun _ _ _ _ _ => fts_nil) (fun _ _ _ _ _ => (fe_tup (fa_cons (fe_v (pv 5)) (fa_cons (fe_fn G_limit_at (hr.mono (by decide)) (by rfl) (fa_cons (fe_v (pv 0)) (fa_cons (fe_v (pv 5)) fa_nil))) fa_nil)))))
    (fss_one (fs_ret (fe_tup (fa_cons (fe_fn G_far_of (hr.mono (by decide)) (by rfl) (fa_cons (fe_v (pv 0)) fa_nil)) (fa_cons (fe_fn G_near_of (hr.mono (by decide)) (by rfl) (fa_cons (fe_v (pv 0)) fa_nil)) (fa_cons (fe_callTy call_tuple_of s_tuple (by rfl) B.tuple PyProof.Rows.boot_tuple (fa_cons (fe_v (pv 4)) fa_nil)) fa_nil)))))))))))))
theorem ok_law_shared {f : Addr} {fd : FuncData} (F : Fun K "_law_shared" "_law_shared" s_law_shared f fd) (hm : mg "_law_shared" = some (.ref f)) (B : Bi K mg) : Fn P w K mg base "_law_shared" 1 ["_law_one", "_law_other"] m_law_shared :=
  fn_mk (h := h_law_shared) (k := 0) F sc_law_shared rfl rfl hm (F.binds fun _ _ _ _ _ _ us hl => match us, hl with | [_, _], _ => rfl) fun cdv A outer s H E hr =>
    (fss_cons (fs_par (i := 0) (j := 1) rfl sc_law_shared.nd rfl rfl (by decide) rfl rfl (fe_callB call_abs s_abs (by rfl) B.abs (by decide +kernel) (fa_cons (fe_v (pv 0)) fa_nil)) (fe_callB call_abs s_abs (by rfl) B.abs (by decide +kernel) (fa_cons (fe_v (pv 1)) fa_nil)) (by rfl))
    (fss_cons (fs_for (tg := (.one 2)) PassesOwn.never rfl (fi_rng1 (by rfl) B.range (fa_cons fe_int fa_nil)) (pg_name (i := 2) sc_law_shared.nd rfl (Or.inl rfl)) (fss_cons (fs_if (ft_cmp (op_eqD hr.units) s_eq (fe_v (pv 1)) fe_int (nomark _)) (fss_one fs_brk) fss_nil)
    (fss_one (fs_par (i := 0) (j := 1) rfl sc_law_shared.nd rfl rfl (by decide) rfl rfl (fe_v (pv 1)) (fe_op op_modN s_mod (fe_callTy call_int1 s_int (by rfl) B.int PyProof.Rows.boot_int (fa_cons (fe_v (pv 0)) fa_nil)) (fe_v (pv 1))) (by rfl)))))
    (fss_one (fs_ret (fe_v (pv 0))))))
theorem ok_law_ratio {f : Addr} {fd : FuncData} (F : Fun K "_law_ratio" "_law_ratio" s_law_ratio f fd) (hm : mg "_law_ratio" = some (.ref f)) (B : Bi K mg) (G_law_shared : Fn P w K mg base "_law_shared" 1 ["_law_one", "_law_other"] m_law_shared) : Fn P w K mg base "_law_ratio" 2 ["_law_top", "_law_bottom"] m_law_ratio :=
  fn_mk (h := h_law_ratio) (k := 1) F sc_law_ratio rfl rfl hm (F.binds fun _ _ _ _ _ _ us hl => match us, hl with | [_, _], _ => rfl) fun cdv A outer s H E hr =>
    (fss_cons (fs_set (i := 2) sc_law_ratio.nd rfl (Or.inl rfl) (fe_fn G_law_shared (hr.mono (by decide)) (by rfl) (fa_cons (fe_v (pv 0)) (fa_cons (fe_v (pv 1)) fa_nil))))
    (fss_cons (fs_if (ft_cmp op_lt s_lt (fe_v (pv 1)) fe_int (nomark _)) (fss_one (fs_set (i := 2) sc_law_ratio.nd rfl (Or.inl rfl) (fe_un un_neg s_neg (fe_v (pv 2))))) fss_nil)
    (fss_one (fs_ret (fe_tup (fa_cons (fe_op op_fdivN s_div (fe_v (pv 0)) (fe_v (pv 2))) (fa_cons (fe_op op_fdivN s_div (fe_v (pv 1)) (fe_v (pv 2))) fa_nil)))))))
theorem ok_law_is_square {f : Addr} {fd : FuncData} (F : Fun K "_law_is_square" "_law_is_square" s_law_is_square f fd) (hm : mg "_law_is_square" = some (.ref f)) (B : Bi K mg) : Fn P w K mg base "_law_is_square" 1 ["_law_number"] m_law_is_square :=
  fn_mk (h := h_law_is_square) (k := 0) F sc_law_is_square rfl rfl hm (F.binds fun _ _ _ _ _ _ us hl => match us, hl with | [_], _ => rfl) fun cdv A outer s H E hr =>
    (fss_one (fs_ret (fe_cmp (op_neD hr.units) s_ne (fe_comp (own := [("_law_root", 1)]) (tg := (.one 1)) rfl sc_law_is_square.nd (fi_weak (fi_rng1 (by rfl) B.range (fa_cons fe_int fa_nil))) (blkOk_by (own := [("_law_root", 1)]) (N := N_law_is_square) (sc := defScope s_law_is_square) (by decide +kernel)) (fun _ _ _ _ _ => (pg_name (i := 1) sc_law_is_square.nd rfl (Or.inl rfl))) (fun _ _ _ _ _ => (fts_one (ft_cmp (op_eqD hr.units) s_eq (fe_op op_mulF s_mul (fe_v (pv 1)) (fe_v (pv 1))) (fe_v (pv 0)) (nomark _)))) (fun _ _ _ _ _ => (fe_v (pv 1)))) (fe_lst fa_nil) (nomark _))))
end
end FT
end -- GD5
section -- GL
set_option Elab.async false
set_option linter.all false
set_option maxRecDepth 100000
set_option maxHeartbeats 4000000
namespace FT
open PySem PySem.Spec PyProof.Rows L2 FL
section
variable {P : Program} {w : World} {K : PySem.W.Frag} {mg : Str → Option Value} {base : Heap}
theorem ok_lawR (B : Bi K mg) (G_function : Fn P w K mg base "function" 7 ["top", "bottom"] m_function) (G_is_lossless : Fn P w K mg base "is_lossless" 11 ["one"] m_is_lossless) (G_tank_parts : Fn P w K mg base "tank_parts" 11 ["one"] m_tank_parts) (G_law_ratio : Fn P w K mg base "_law_ratio" 2 ["_law_top", "_law_bottom"] m_law_ratio) (G_law_is_square : Fn P w K mg base "_law_is_square" 1 ["_law_number"] m_law_is_square) (cdv : Value) (A : Around) (outer : List Env) (s : Shared) (H : Hp) (E : XK) (f : Addr) (hr : Room 11 (A.deeper (envOfC "law" (defScope s_law) s.heap.objs.size f cdv))) :
    FSs (cxOf CX0 P w K mg base N_law "law" (defScope s_law) f cdv A outer s H E).nox ((defBody s_law).drop 2) h_lawR :=
    (fss_cons (fs_set (i := 5) sc_law.nd rfl (Or.inl rfl) (fe_fn G_function (hr.mono (by decide)) (by rfl) (fa_cons (fe_tup (fa_cons fe_int (fa_cons (fe_v (pv 3)) (fa_cons fe_int (fa_cons (fe_op op_mulF s_mul fe_int (fe_v (pv 2))) fa_nil))))) (fa_cons (fe_tup (fa_cons (fe_v (pv 4)) (fa_cons fe_int (fa_cons (fe_v (pv 3)) (fa_cons fe_int (fa_cons (fe_v (pv 2)) fa_nil)))))) fa_nil))))
    (fss_cons (fs_if (ft_cmp op_lt s_lt (fe_op op_mulF s_mul (fe_v (pv 3)) (fe_v (pv 3))) (fe_op op_mulF s_mul (fe_op op_mulF s_mul fe_int (fe_v (pv 2))) (fe_v (pv 4))) (nomark _)) (fss_one (fs_ret (fe_cmp op_isBl s_isB (fe_fn G_is_lossless (hr.mono (by decide)) (by rfl) (fa_cons (fe_v (pv 5)) fa_nil)) fe_bl (nomark _)))) fss_nil)
    (fss_cons (fs_if (ft_cmp (op_eqD hr.units) s_eq (fe_op op_mulF s_mul (fe_v (pv 3)) (fe_v (pv 3))) (fe_op op_mulF s_mul (fe_op op_mulF s_mul fe_int (fe_v (pv 2))) (fe_v (pv 4))) (nomark _)) (fss_one (fs_ret (fe_cmp (op_eqD hr.units) s_eq (fe_fn G_tank_parts (hr.mono (by decide)) (by rfl) (fa_cons (fe_v (pv 5)) fa_nil)) (fe_tup (fa_cons (fe_tup (fa_cons fe_int (fa_cons fe_int fa_nil))) (fa_cons (fe_tup (fa_cons fe_int (fa_cons fe_int fa_nil))) (fa_cons (fe_tup (fa_cons (fe_tup (fa_cons (fe_fn G_law_ratio (hr.mono (by decide)) (by rfl) (fa_cons (fe_v (pv 3)) (fa_cons (fe_op op_mulF s_mul fe_int (fe_v (pv 2))) fa_nil))) (fa_cons (fe_tup (fa_cons fe_int (fa_cons fe_int fa_nil))) fa_nil))) fa_nil)) fa_nil)))) (nomark _)))) fss_nil)
    (fss_cons (fs_asg (tg := (.two 6 7)) (fe_tup (fa_cons (fe_fn G_tank_parts (hr.mono (by decide)) (by rfl) (fa_cons (fe_v (pv 5)) fa_nil)) (fa_cons (fe_op op_subF s_sub (fe_op op_mulF s_mul (fe_v (pv 3)) (fe_v (pv 3))) (fe_op op_mulF s_mul (fe_op op_mulF s_mul fe_int (fe_v (pv 2))) (fe_v (pv 4)))) fa_nil))) (pg_tup rfl (pgs_cons (pg_name (i := 6) sc_law.nd rfl (Or.inl rfl)) (pgs_cons (pg_name (i := 7) sc_law.nd rfl (Or.inr rfl)) pgs_nil))))
    (fss_cons (fs_if (PW.pt (fw_or (ft_cmp op_notBl s_notB (fe_fn G_is_lossless (hr.mono (by decide)) (by rfl) (fa_cons (fe_v (pv 5)) fa_nil)) fe_bl (nomark _)) (fw_or1 (ft_cmp (op_neD hr.units) s_ne (fe_cmp op_notN s_notN (fe_v (pv 6)) fe_non (nomark _)) (fe_fn G_law_is_square (hr.mono (by decide)) (by rfl) (fa_cons (fe_v (pv 7)) fa_nil)) (nomark _))))) (fss_one (fs_ret fe_bl)) fss_nil)
    (fss_cons (fs_if (ft_cmp op_isN s_isN (fe_v (pv 6)) fe_non (nomark _)) (fss_one (fs_ret fe_bl)) fss_nil)
    (fss_cons (fs_set (i := 8) sc_law.nd rfl (Or.inl rfl) (fe_ix ixF s_ix (fe_comp (own := [("_law_root", 8)]) (tg := (.one 8)) rfl sc_law.nd (fi_weak (fi_rng1 (by rfl) B.range (fa_cons fe_int fa_nil))) (blkOk_by (own := [("_law_root", 8)]) (N := N_law) (sc := defScope s_law) (by decide +kernel)) (fun _ _ _ _ _ => (pg_name (i := 8) sc_law.nd rfl (Or.inl rfl))) (fun _ _ _ _ _ => (fts_one (ft_cmp (op_eqD hr.units) s_eq (fe_op op_mulF s_mul (fe_v (pv 8)) (fe_v (pv 8))) (fe_v (pv 7)) (nomark _)))) (fun _ _ _ _ _ => (fe_v (pv 8)))) fe_int (fun _ _ => rfl)))
    (fss_cons (fs_set (i := 9) sc_law.nd rfl (Or.inl rfl) (fe_lst (fa_cons (fe_tup (fa_cons (fe_fn G_law_ratio (hr.mono (by decide)) (by rfl) (fa_cons (fe_op op_subF s_sub (fe_v (pv 3)) (fe_v (pv 8))) (fa_cons (fe_op op_mulF s_mul fe_int (fe_v (pv 2))) fa_nil))) (fa_cons (fe_tup (fa_cons fe_int (fa_cons fe_int fa_nil))) fa_nil))) (fa_cons (fe_tup (fa_cons (fe_fn G_law_ratio (hr.mono (by decide)) (by rfl) (fa_cons (fe_op op_add s_add (fe_v (pv 3)) (fe_v (pv 8))) (fa_cons (fe_op op_mulF s_mul fe_int (fe_v (pv 2))) fa_nil))) (fa_cons (fe_tup (fa_cons fe_int (fa_cons fe_int fa_nil))) fa_nil))) fa_nil))))
    (fss_one (fs_ret (fe_cmp (op_eqD hr.units) s_eq (fe_v (pv 6)) (fe_tup (fa_cons (fe_tup (fa_cons fe_int (fa_cons fe_int fa_nil))) (fa_cons (fe_tup (fa_cons fe_int (fa_cons fe_int fa_nil))) (fa_cons (fe_callTy call_tuple_of s_tuple (by rfl) B.tuple PyProof.Rows.boot_tuple (fa_cons (fe_v (pv 9)) fa_nil)) fa_nil)))) (nomark _))))))))))))
end
end FT
end -- GL
section -- HI
set_option Elab.async false
set_option linter.all false
set_option maxRecDepth 100000
/-! a head whose text opens with imports: the opening run over the tree, fenced, then the top -/
noncomputable section
namespace FT.HI
open PySem PySem.W PySem.Calls PyProof.Rows HandSHeadRun
section
variable (st : SharedT → Thread → Option (SharedT × Thread))
def impF : Nat → SharedT → Thread → Option SharedT
  | 0, _, _ => none
  | m + 1, s, t => match t.atExitBegin with
    | some [] => some s
    | some (_ :: _) => none
    | none => match st s t with
      | some (s', t') => frS s' fun s' => impF m s' t'
      | none => none
end
theorem impF_ok {tb : String → Option Builtin} {p : Program} {w : World} : ∀ {m : Nat} {s s' : SharedT} {t : Thread}, impF (stepT (denote tb) p w) m s t = some s' → importEnds tb p w m s.abs t = some s'.abs
  | 0, _, _, _, h => by cases h
  | m + 1, s, s', t, h => by
    have h1 : (match t.atExitBegin with
      | some [] => some s
      | some (_ :: _) => none
      | none => match stepT (denote tb) p w s t with
        | some (s', t') => frS s' fun s' => impF (stepT (denote tb) p w) m s' t'
        | none => none) = some s' := h
    unfold importEnds
    cases ht : t.atExitBegin with
    | some l =>
      rw [ht] at h1
      cases l with
      | nil =>
        cases h1
        rfl
      | cons a b => cases h1
    | none =>
      rw [ht] at h1
      cases hs : stepT (denote tb) p w s t with
      | none =>
        have h2 : (match stepT (denote tb) p w s t with
          | some (s', t') => frS s' fun s' => impF (stepT (denote tb) p w) m s' t'
          | none => none) = some s' := h1
        rw [hs] at h2
        cases h2
      | some r =>
        obtain ⟨s2, t2⟩ := r
        have h2 : (match stepT (denote tb) p w s t with
          | some (s', t') => frS s' fun s' => impF (stepT (denote tb) p w) m s' t'
          | none => none) = some s' := h1
        rw [hs] at h2
        have h3 : (frS s2 fun s' => impF (stepT (denote tb) p w) m s' t2) = some s' := h2
        rw [frS_eq] at h3
        have q := impF_ok h3
        show (match step (denote tb) p w s.abs t with
          | .go s' t' => importEnds tb p w m s' t'
          | .halt _ _ => none) = some s'.abs
        rw [stepT_spec hs]
        exact q
/-- a state, its heap put in a tree -/
def putS (s : Shared) : Option SharedT := match putAll s.heap.objs.toList .nil 0 with
  | some (t, n) => frS ⟨t, n, s.heap.life, s.gens, s.drawn, s.toks, s.os⟩ some
  | none => none
theorem putS_ok {s : Shared} {z : SharedT} (h : putS s = some z) : z.abs = s := by
  unfold putS at h
  cases e : putAll s.heap.objs.toList .nil 0 with
  | none =>
    rw [e] at h
    cases h
  | some r =>
    obtain ⟨t, n⟩ := r
    rw [e] at h
    have h2 : frS ⟨t, n, s.heap.life, s.gens, s.drawn, s.toks, s.os⟩ some = some z := h
    rw [frS_eq] at h2
    cases h2
    show (⟨absHeap t n s.heap.life, s.gens, s.drawn, s.toks, s.os⟩ : Shared) = s
    rw [putAll_heap e]
def openT (st : SharedT → Thread → Option (SharedT × Thread)) (N : Nat) (p : Program) : Option SharedT := match putS (start (opening p)).1 with
  | some s0 => (match impF st N s0 (start (opening p)).2 with
    | some s => (match fenceModules? p s.abs with
      | some s1 => putS s1
      | none => none)
    | none => none)
  | none => none
theorem openT_ok {p : Program} {w : World} {N : Nat} {z : SharedT} (h : openT (stepT (denote treeTable) (opening p) w) N p = some z) : fencedOpening treeTable p w N = some z.abs := by
  unfold openT at h
  cases e0 : putS (start (opening p)).1 with
  | none =>
    rw [e0] at h
    cases h
  | some s0 =>
    rw [e0] at h
    cases e1 : impF (stepT (denote treeTable) (opening p) w) N s0 (start (opening p)).2 with
    | none =>
      have h1 : (match impF (stepT (denote treeTable) (opening p) w) N s0 (start (opening p)).2 with
        | some s => (match fenceModules? p s.abs with
          | some s1 => putS s1
          | none => none)
        | none => none) = some z := h
      rw [e1] at h1
      cases h1
    | some s =>
      have h1 : (match impF (stepT (denote treeTable) (opening p) w) N s0 (start (opening p)).2 with
        | some s => (match fenceModules? p s.abs with
          | some s1 => putS s1
          | none => none)
        | none => none) = some z := h
      rw [e1] at h1
      have h2 : (match fenceModules? p s.abs with
          | some s1 => putS s1
          | none => none) = some z := h1
      cases e2 : fenceModules? p s.abs with
      | none =>
        rw [e2] at h2
        cases h2
      | some s1 =>
        rw [e2] at h2
        have h3 : putS s1 = some z := h2
        have i := impF_ok e1
        rw [putS_ok e0] at i
        unfold fencedOpening
        rw [i]
        show fenceModules? p s.abs = _
        rw [e2, putS_ok h3]
def endI (st0 st : SharedT → Thread → Option (SharedT × Thread)) (N : Nat) (p : Program) : Option (SharedT × SharedT) := match openT st0 N p with
  | some s0 => (match s0.abs.heap.isNs mainGlobals && s0.abs.gens.size == 0 with
    | true => (match goF st s0.n (s0.abs.heap.nsMap mainGlobals "__annotations__") N s0 (topStub p) with
      | some s => some (s0, s)
      | none => none)
    | false => none)
  | none => none
theorem endI_ok {p : Program} {w : World} {N : Nat} {z : SharedT × SharedT} (h : endI (stepT (denote treeTable) (opening p) w) (stepT (denote treeTable) p w) N p = some z) :
    fencedOpening treeTable p w N = some z.1.abs ∧ (z.1.abs.heap.isNs mainGlobals && z.1.abs.gens.size == 0) = true ∧ topRun treeTable p w z.1.abs.heap.objs.size (z.1.abs.heap.nsMap mainGlobals "__annotations__") N z.1.abs (topStub p) = some z.2.abs := by
  unfold endI at h
  cases e0 : openT (stepT (denote treeTable) (opening p) w) N p with
  | none =>
    rw [e0] at h
    cases h
  | some s0 =>
    rw [e0] at h
    have h1 : (match s0.abs.heap.isNs mainGlobals && s0.abs.gens.size == 0 with
      | true => (match goF (stepT (denote treeTable) p w) s0.n (s0.abs.heap.nsMap mainGlobals "__annotations__") N s0 (topStub p) with
        | some s => some (s0, s)
        | none => none)
      | false => none) = some z := h
    cases e1 : (s0.abs.heap.isNs mainGlobals && s0.abs.gens.size == 0) with
    | false =>
      rw [e1] at h1
      cases h1
    | true =>
      rw [e1] at h1
      have h2 : (match goF (stepT (denote treeTable) p w) s0.n (s0.abs.heap.nsMap mainGlobals "__annotations__") N s0 (topStub p) with
        | some s => some (s0, s)
        | none => none) = some z := h1
      cases e2 : goF (stepT (denote treeTable) p w) s0.n (s0.abs.heap.nsMap mainGlobals "__annotations__") N s0 (topStub p) with
      | none =>
        rw [e2] at h2
        cases h2
      | some s =>
        rw [e2] at h2
        cases h2
        refine ⟨openT_ok e0, e1, ?_⟩
        have q := goF_ok e2
        have en : s0.abs.heap.objs.size = s0.n := absHeap_size s0.tree s0.n s0.life
        show topRun treeTable p w s0.abs.heap.objs.size _ N s0.abs (topStub p) = _
        rw [en]
        exact q
/-- the run's equation -/
def RunI (r : OpenRow) (q : Program) (H : Hook) (ob : SharedT → H.α) (N : Nat) (loose : List PySem.Str) (w : World) : Prop :=
  (endI (stepQ (denQ tabQ) (opening r.prog) w) (stepQ (denQ tabQ) r.prog w) N r.prog).map (fun z => (looksF r.prog z.1.abs.heap z.2.abs, seenQ q loose (importedModules r.prog.main.body) (fun s => xlAt q [] s && recOk r.toRowW.records s) z.2.abs, ob z.2)) = some (true, openGood q loose, H.val w)
theorem left_I {p q : Program} {loose : List PySem.Str} {Xt : Shared → Bool} {α : Type} {Yf : Shared → α} {Ya : World → α} {N : Nat}
    (run : ∀ w : World, (endI (stepT (denote treeTable) (opening p) w) (stepT (denote treeTable) p w) N p).map (fun z => (looksF p z.1.abs.heap z.2.abs, openSeen q loose (importedModules p.main.body) Xt true z.2.abs, Yf z.2.abs)) = some (true, openGood q loose, Ya w)) :
    LeftO p q loose Xt Yf Ya N true := fun w => by
  obtain ⟨z, hz, hv⟩ := Option.map_eq_some_iff.mp (run w)
  obtain ⟨l1, l2, l3⟩ : _ ∧ _ ∧ _ := by simpa only [Prod.mk.injEq] using hv
  obtain ⟨a, b, r⟩ := endI_ok hz
  have l1' : (staticsOk (importedModules p.main.body) z.1.abs.heap z.2.abs.heap && namesBound p z.2.abs.heap && gensDone z.2.abs && laidKept z.1.abs.heap z.2.abs.heap) = true := l1
  have t : topFrom treeTable p w N z.1.abs = some z.2.abs := by
    unfold topFrom
    rw [b]
    show (topRun treeTable p w z.1.abs.heap.objs.size (z.1.abs.heap.nsMap mainGlobals "__annotations__") N z.1.abs (topStub p)).bind _ = _
    rw [r]
    show (match staticsOk (importedModules p.main.body) z.1.abs.heap z.2.abs.heap && namesBound p z.2.abs.heap && gensDone z.2.abs && laidKept z.1.abs.heap z.2.abs.heap with | true => some z.2.abs | false => none) = _
    rw [l1']
  unfold openEnds
  rw [a]
  show (topFrom treeTable p w N _).map _ = _
  rw [t]
  exact congrArg some (Prod.ext l2 l3)
theorem endI_eq (N : Nat) (p : Program) (w : World) : endI (stepT (denote treeTable) (opening p) w) (stepT (denote treeTable) p w) N p = endI (stepQ (denQ tabQ) (opening p) w) (stepQ (denQ tabQ) p w) N p := by
  rw [stepQ_eq, denQ_eq, tabQ_eq]
theorem head_I {r : OpenRow} {q : Program} {H : Hook} {ob : SharedT → H.α} {N : Nat} {loose : List PySem.Str} {d : DefRec} {kwd : List (PySem.Str × PySem.Expr)} (ho : ∀ s : SharedT, ob s = H.obs s.abs)
    (run : ∀ w, RunI r q H ob N loose w)
    (hdef : defOf q r.name = some (d, kwd)) (hp : r.prog.theDef r.name = some (d.params, d.body, d.scope)) (hk : kwWritten? d.params.kwonlyargs d.params.kw_defaults = some kwd)
    (hwr : (!r.writes || r.records.isEmpty) = true) (k1 : r.wellSaid = true) (ok : (chainsOk q && opensWell r.prog && (frees r.toRowW && r.within.isEmpty)) = true) (hb : r.prog.bare) (hw : r.toRowW.promised)
    (call : WalkO q loose (XL q []) H.says r.toRowW d kwd fun f vs => PySem.call f vs) : r.Holds := by
  have left : LeftO r.prog q loose (fun s => xlAt q [] s && recOk r.toRowW.records s) H.obs H.val N true :=
    left_I fun w => by
      have z := run w
      have eo : ob = fun s => H.obs s.abs := funext ho
      unfold RunI at z
      rw [eo] at z
      rw [endI_eq]
      simp only [seenQ_eq]
      exact z
  exact holds_open (r := r) (q := q) (loose := loose) (XP := XL q []) (YP := H.says) (d := d) (kwd := kwd) left H.of H.keeps (fun s z => xl_of s (Bool.and_eq_true_iff.mp z).1) XL.keeps hdef hp hk (fun s z => recFacts_of (Bool.and_eq_true_iff.mp z).2) hwr k1 ok hb hw call
end FT.HI
end
end -- HI
section -- HD
set_option Elab.async false
set_option linter.all false
set_option maxRecDepth 100000
set_option maxHeartbeats 0
/-! the head: what stands behind the top -/
namespace FT
open PySem PySem.Spec PyProof.Rows L2 FL
def dD (i : Nat) (x : Str) : He.DefD := ⟨(x, none), x, x, defArgs (topS i), defBody (topS i), defScope (topS i), [], []⟩
def fns0 : List He.DefD := [dD 9 "is_int", dD 10 "is_in", dD 11 "ratio", dD 12 "plus", dD 13 "minus", dD 14 "times", dD 15 "over", dD 16 "is_less", dD 19 "is_poly", dD 20 "need_poly", dD 21 "trimmed", dD 22 "poly_plus", dD 23 "scaled", dD 24 "poly_minus", dD 25 "poly_times", dD 26 "content", dD 27 "primitive", dD 28 "remainder", dD 29 "common", dD 30 "quotient", dD 31 "derivative", dD 32 "flipped", dD 33 "value_of", dD 34 "even_part", dD 35 "odd_part", dD 36 "ordered", dD 39 "made", dD 40 "is_function", dD 41 "need_function", dD 42 "function"]
def fns1 : List He.DefD := [dD 44 "chain_of", dD 45 "changes", dD 46 "sign_of", dD 47 "signs_at", dD 48 "roots_in", dD 49 "is_on_left", dD 50 "less_lead", dD 51 "odd_roots", dD 52 "is_at_least_zero", dD 54 "alternating", dD 55 "real_top", dD 56 "is_good_on_axis", dD 57 "positive", dD 58 "axis_factor", dD 60 "is_odd", dD 61 "lossless", dD 62 "is_lossless", dD 64 "far_of", dD 65 "near_of", dD 67 "root_in", dD 68 "rational_roots", dD 69 "limit_at", dD 70 "tank_parts", dD 72 "_law_taken", dD 73 "_law_shared", dD 74 "_law_ratio", dD 75 "_law_is_square", dD 76 "law"]
def fns : List He.DefD := fns0 ++ fns1
def fas0 : List He.Fa := [.glo "is_int", .glo "is_in", .glo "ratio", .glo "plus", .glo "minus", .glo "times", .glo "over", .glo "is_less", .glo "is_poly", .glo "need_poly", .glo "trimmed", .glo "poly_plus", .glo "scaled", .glo "poly_minus", .glo "poly_times", .glo "content", .glo "primitive", .glo "remainder", .glo "common", .glo "quotient", .glo "derivative", .glo "flipped", .glo "value_of", .glo "even_part", .glo "odd_part", .glo "ordered", .glo "made", .glo "is_function", .glo "need_function", .glo "function"]
def fas1 : List He.Fa := [.glo "chain_of", .glo "changes", .glo "sign_of", .glo "signs_at", .glo "roots_in", .glo "is_on_left", .glo "less_lead", .glo "odd_roots", .glo "is_at_least_zero", .glo "alternating", .glo "real_top", .glo "is_good_on_axis", .glo "positive", .glo "axis_factor", .glo "is_odd", .glo "lossless", .glo "is_lossless", .glo "far_of", .glo "near_of", .glo "root_in", .glo "rational_roots", .glo "limit_at", .glo "tank_parts", .glo "_law_taken", .glo "_law_shared", .glo "_law_ratio", .glo "_law_is_square", .glo "law"]
def fas2 : List He.Fa := [.free "len", .free "range", .free "zip", .free "enumerate", .free "tuple", .free "list", .free "isinstance", .free "int", .free "bool", .free "all", .free "any", .free "max", .free "abs", .int "MOST_SIZE" (10 ^ 60), .int "MOST_DEGREE" 12]
def fas : List He.Fa := fas0 ++ fas1 ++ fas2
/-- a tuple of these stands at a -/
def tupA (K : PySem.W.Frag) (a : Addr) (vs : List V) : Bool := match K.lookup a with
  | some ⟨.type c, _, .seq its _, _⟩ => decide (c = "tuple") && (decide (its.size ≤ sizeLine) && He.relAll vs its.toList)
  | _ => false
theorem tupA_ok {K : PySem.W.Frag} {a : Addr} {vs : List V} (h : tupA K a vs = true) (H : Hp) : SqT K H a vs := by
  unfold tupA at h
  cases q : K.lookup a with
  | none =>
    rw [q] at h
    cases h
  | some o =>
    obtain ⟨oc, od, dt, osl⟩ := o
    rw [q] at h
    cases oc with
    | type c =>
      cases dt with
      | seq its n =>
        have h0 : (decide (c = "tuple") && (decide (its.size ≤ sizeLine) && He.relAll vs its.toList)) = true := h
        obtain ⟨h1, h2⟩ := He.ba h0
        obtain ⟨h3, h4⟩ := He.ba h2
        exact .inr ⟨_, its, n, q, congrArg Value.type (of_decide_eq_true h1), rfl, of_decide_eq_true h3, He.relAll_ok h4⟩
      | _ => cases h
    | _ => cases dt <;> cases h
def itA (K : PySem.W.Frag) (a : Addr) (i : Nat) : Addr := match K.lookup a with
  | some ⟨_, _, .seq its _, _⟩ => (match its.toList[i]? with
    | some (.ref b) => b
    | _ => 0)
  | _ => 0
/-- what else: gcd, ZERO -/
def extra (K : PySem.W.Frag) : Bool := He.eqO (PySem.W.nsIn K mainGlobals "gcd") (some (some (.builtin "math.gcd"))) && (He.eqO (PySem.W.nsIn K mainGlobals "ZERO") (some (some (.ref (He.ga K "ZERO")))) &&
  (tupA K (He.ga K "ZERO") [.ref (itA K (He.ga K "ZERO") 0), .ref (itA K (He.ga K "ZERO") 1)] && (tupA K (itA K (He.ga K "ZERO") 0) [] && tupA K (itA K (He.ga K "ZERO") 1) [.int 1])))
abbrev AlX : Type := He.AlD × Bool
def obsX (g : Addr → Option Obj) : AlX := (fun K => (He.obsD fas fns K, extra K)) (He.frG g (He.asD g 4))
def hk : PySem.W.Hook where
  α := AlX
  obs := fun s => obsX s.heap.get?
  val := fun _ => (He.valD fns, true)
  says := fun _ h => ∃ K : PySem.W.Frag, K.In h ∧ He.SaysD fas fns K ∧ extra K = true
  of := fun _ _ e => ⟨_, He.frG_in, congrArg (fun z : AlX => z.1) e, congrArg (fun z : AlX => z.2) e⟩
  keeps := fun _ _ _ ⟨K, hK, c⟩ k => ⟨K, PySem.W.Frag.In.keeps hK k, c⟩
def ob (s : PySem.W.SharedT) : AlX := obsX (HandSHeadRun.getT s)
theorem ob_eq (s : PySem.W.SharedT) : ob s = hk.obs s.abs := by
  have e : HandSHeadRun.getT s = s.abs.heap.get? := funext (HandSHeadRun.getT_eq s)
  show obsX _ = obsX _
  rw [e]

def loose0 : List Str := ["gcd", "CoilError", "BadPolynomial", "BadFunction", "NoFunction", "NotLossless", "MOST_SIZE", "is_int", "is_in", "ratio", "plus", "minus", "times", "over", "is_less", "MOST_DEGREE"]
def loose1 : List Str := ["is_poly", "need_poly", "trimmed", "poly_plus", "scaled", "poly_minus", "poly_times", "content", "primitive", "remainder", "common", "quotient", "derivative", "flipped", "value_of", "even_part"]
def loose2 : List Str := ["odd_part", "ordered", "ZERO", "made", "is_function", "need_function", "function", "chain_of", "changes", "sign_of", "signs_at", "roots_in", "is_on_left", "less_lead", "odd_roots", "is_at_least_zero"]
def loose3 : List Str := ["alternating", "real_top", "is_good_on_axis", "positive", "axis_factor", "is_odd", "lossless", "is_lossless", "far_of", "near_of", "root_in", "rational_roots", "limit_at", "tank_parts", "_law_taken", "_law_shared"]
def loose4 : List Str := ["_law_ratio", "_law_is_square"]
def loose : List Str := loose0 ++ loose1 ++ loose2 ++ loose3 ++ loose4
abbrev lawI : Nat := 76
abbrev RL : PySem.W.OpenRow := PySem.W.OpenLaw.row PySem.Challenge.rw_coilnets_k51_whole_tanks_by_none
theorem run (w : World) : HI.RunI RL (PySem.W.view RL.prog [lawI]) hk ob 4000 loose w := by
  unfold HI.RunI
  kernel_rfl
end FT
end -- HD
section -- GA
set_option Elab.async false
set_option linter.all false
set_option maxRecDepth 100000
set_option maxHeartbeats 4000000
/-! every def by its facts, callees first -/
namespace FT
open PySem PySem.Spec PyProof.Rows L2 FL
theorem fun_ofD {K : PySem.W.Frag} {x q : Str} {st : Stmt} {f : Addr} {fd : FuncData} (F : FunD K x q (defArgs st) (defBody st) (defScope st) [] [] f fd) : Fun K x q st f fd := by
  obtain ⟨oc, od, dV, kV, doc, pm, an, cdv, ct, osl, rfl, lk, hcd, hD, hK⟩ := F.ex
  rcases hD with ⟨_, rfl⟩ | ⟨e, _⟩
  · exact ⟨⟨oc, od, kV, doc, pm, an, cdv, ct, osl, rfl, lk, hcd⟩, F.kp⟩
  · exact absurd rfl e
section
variable {P : Program} {w : World} {K : PySem.W.Frag} {h : Heap} {mg : Str → Option Value}
theorem fact_fn (X : K.In h) (G : h.Ns mainGlobals mg) (c : He.SaysD fas fns K) (i j : Nat) (k : Nat) (x : Str) (hi : fns[i]? = some (dD k x) := by rfl) (hj : fas[j]? = some (.glo x) := by rfl) :
    ∃ f fd, Fun K x x (topS k) f fd ∧ mg x = some (.ref f) := by
  obtain ⟨fd, F⟩ := c.def_ i hi
  exact ⟨_, fd, fun_ofD F, He.glo_ok X G (c.fact j hj)⟩
theorem bi_of (X : K.In h) (G : h.Ns mainGlobals mg) (c : He.SaysD fas fns K) (e : extra K = true) : Bi K mg := by
  obtain ⟨e1, e⟩ := He.ba e
  obtain ⟨e2, e⟩ := He.ba e
  obtain ⟨e3, e⟩ := He.ba e
  obtain ⟨e4, e5⟩ := He.ba e
  refine ⟨He.free_ok X G (c.fact 58 (f := .free "len") rfl), He.free_ok X G (c.fact 59 (f := .free "range") rfl), He.free_ok X G (c.fact 60 (f := .free "zip") rfl), He.free_ok X G (c.fact 61 (f := .free "enumerate") rfl), He.free_ok X G (c.fact 62 (f := .free "tuple") rfl), He.free_ok X G (c.fact 63 (f := .free "list") rfl), He.free_ok X G (c.fact 64 (f := .free "isinstance") rfl), He.free_ok X G (c.fact 65 (f := .free "int") rfl), He.free_ok X G (c.fact 66 (f := .free "bool") rfl), He.free_ok X G (c.fact 67 (f := .free "all") rfl), He.free_ok X G (c.fact 68 (f := .free "any") rfl), He.free_ok X G (c.fact 69 (f := .free "max") rfl), He.free_ok X G (c.fact 70 (f := .free "abs") rfl), PySem.W.mg_of X G (He.eqO_ok e1), He.int_ok X G (c.fact 71 (f := .int "MOST_SIZE" (10 ^ 60)) rfl), He.int_ok X G (c.fact 72 (f := .int "MOST_DEGREE" 12) rfl), _, PySem.W.mg_of X G (He.eqO_ok e2), fun H => ?_⟩
  exact ⟨_, _, rfl, tupA_ok e3 H, _, _, rfl, ⟨_, _, rfl, tupA_ok e4 H, rfl⟩, _, _, rfl, ⟨_, _, rfl, tupA_ok e5 H, _, _, rfl, rfl, rfl⟩, rfl⟩
/-- what the law's body calls -/
structure Calls (P : Program) (w : World) (K : PySem.W.Frag) (mg : Str → Option Value) (base : Heap) : Prop where
  function : Fn P w K mg base "function" 7 ["top", "bottom"] m_function
  is_lossless : Fn P w K mg base "is_lossless" 11 ["one"] m_is_lossless
  tank_parts : Fn P w K mg base "tank_parts" 11 ["one"] m_tank_parts
  law_ratio : Fn P w K mg base "_law_ratio" 2 ["_law_top", "_law_bottom"] m_law_ratio
  law_is_square : Fn P w K mg base "_law_is_square" 1 ["_law_number"] m_law_is_square
theorem calls_of (X : K.In h) (G : h.Ns mainGlobals mg) (c : He.SaysD fas fns K) (e : extra K = true) (base : Heap) : Calls P w K mg base := by
  have B := bi_of X G c e
  obtain ⟨f_is_int, fd_is_int, F_is_int, hm_is_int⟩ := fact_fn X G c 0 0 9 "is_int"
  have G_is_int : Fn P w K mg base "is_int" 1 ["value"] m_is_int := ok_is_int F_is_int hm_is_int B
  obtain ⟨f_is_in, fd_is_in, F_is_in, hm_is_in⟩ := fact_fn X G c 1 1 10 "is_in"
  have G_is_in : Fn P w K mg base "is_in" 2 ["value", "least", "most"] m_is_in := ok_is_in F_is_in hm_is_in B G_is_int
  obtain ⟨f_ratio, fd_ratio, F_ratio, hm_ratio⟩ := fact_fn X G c 2 2 11 "ratio"
  have G_ratio : Fn P w K mg base "ratio" 1 ["top", "bottom"] M_ratio := (ok_ratio F_ratio hm_ratio B).weak le_ratio
  obtain ⟨f_plus, fd_plus, F_plus, hm_plus⟩ := fact_fn X G c 3 3 12 "plus"
  have G_plus : Fn P w K mg base "plus" 2 ["one", "other"] M_plus := (ok_plus F_plus hm_plus B G_ratio).weak le_plus
  obtain ⟨f_minus, fd_minus, F_minus, hm_minus⟩ := fact_fn X G c 4 4 13 "minus"
  have G_minus : Fn P w K mg base "minus" 2 ["one", "other"] M_minus := (ok_minus F_minus hm_minus B G_ratio).weak le_minus
  obtain ⟨f_times, fd_times, F_times, hm_times⟩ := fact_fn X G c 5 5 14 "times"
  have G_times : Fn P w K mg base "times" 2 ["one", "other"] M_times := (ok_times F_times hm_times B G_ratio).weak le_times
  obtain ⟨f_over, fd_over, F_over, hm_over⟩ := fact_fn X G c 6 6 15 "over"
  have G_over : Fn P w K mg base "over" 2 ["one", "other"] M_over := (ok_over F_over hm_over B G_ratio).weak le_over
  obtain ⟨f_is_less, fd_is_less, F_is_less, hm_is_less⟩ := fact_fn X G c 7 7 16 "is_less"
  have G_is_less : Fn P w K mg base "is_less" 1 ["one", "other"] m_is_less := ok_is_less F_is_less hm_is_less B
  obtain ⟨f_is_poly, fd_is_poly, F_is_poly, hm_is_poly⟩ := fact_fn X G c 8 8 19 "is_poly"
  have G_is_poly : Fn P w K mg base "is_poly" 3 ["value"] m_is_poly := ok_is_poly F_is_poly hm_is_poly B G_is_in
  obtain ⟨f_need_poly, fd_need_poly, F_need_poly, hm_need_poly⟩ := fact_fn X G c 9 9 20 "need_poly"
  have G_need_poly : Fn P w K mg base "need_poly" 4 ["value"] m_need_poly := ok_need_poly F_need_poly hm_need_poly B G_is_poly
  obtain ⟨f_trimmed, fd_trimmed, F_trimmed, hm_trimmed⟩ := fact_fn X G c 10 10 21 "trimmed"
  have G_trimmed : Fn P w K mg base "trimmed" 1 ["some"] M_trimmed := (ok_trimmed F_trimmed hm_trimmed B).weak le_trimmed
  obtain ⟨f_poly_plus, fd_poly_plus, F_poly_plus, hm_poly_plus⟩ := fact_fn X G c 11 11 22 "poly_plus"
  have G_poly_plus : Fn P w K mg base "poly_plus" 2 ["one", "other"] M_poly_plus := (ok_poly_plus F_poly_plus hm_poly_plus B G_trimmed).weak le_poly_plus
  obtain ⟨f_scaled, fd_scaled, F_scaled, hm_scaled⟩ := fact_fn X G c 12 12 23 "scaled"
  have G_scaled : Fn P w K mg base "scaled" 2 ["one", "factor"] M_scaled := (ok_scaled F_scaled hm_scaled B G_trimmed).weak le_scaled
  obtain ⟨f_poly_minus, fd_poly_minus, F_poly_minus, hm_poly_minus⟩ := fact_fn X G c 13 13 24 "poly_minus"
  have G_poly_minus : Fn P w K mg base "poly_minus" 3 ["one", "other"] M_poly_minus := (ok_poly_minus F_poly_minus hm_poly_minus B G_scaled G_poly_plus).weak le_poly_minus
  obtain ⟨f_poly_times, fd_poly_times, F_poly_times, hm_poly_times⟩ := fact_fn X G c 14 14 25 "poly_times"
  have G_poly_times : Fn P w K mg base "poly_times" 2 ["one", "other"] m_poly_times := ok_poly_times F_poly_times hm_poly_times B G_trimmed
  obtain ⟨f_content, fd_content, F_content, hm_content⟩ := fact_fn X G c 15 15 26 "content"
  have G_content : Fn P w K mg base "content" 1 ["one"] M_content := (ok_content F_content hm_content B).weak le_content
  obtain ⟨f_primitive, fd_primitive, F_primitive, hm_primitive⟩ := fact_fn X G c 16 16 27 "primitive"
  have G_primitive : Fn P w K mg base "primitive" 2 ["one"] M_primitive := (ok_primitive F_primitive hm_primitive B G_content).weak le_primitive
  obtain ⟨f_remainder, fd_remainder, F_remainder, hm_remainder⟩ := fact_fn X G c 17 17 28 "remainder"
  have G_remainder : Fn P w K mg base "remainder" 4 ["one", "other"] M_remainder := (ok_remainder F_remainder hm_remainder B G_scaled G_poly_minus G_content).weak le_remainder
  obtain ⟨f_common, fd_common, F_common, hm_common⟩ := fact_fn X G c 18 18 29 "common"
  have G_common : Fn P w K mg base "common" 5 ["one", "other"] M_common := (ok_common F_common hm_common B G_remainder G_primitive).weak le_common
  obtain ⟨f_quotient, fd_quotient, F_quotient, hm_quotient⟩ := fact_fn X G c 19 19 30 "quotient"
  have G_quotient : Fn P w K mg base "quotient" 2 ["one", "other"] m_quotient := ok_quotient F_quotient hm_quotient B G_trimmed
  obtain ⟨f_derivative, fd_derivative, F_derivative, hm_derivative⟩ := fact_fn X G c 20 20 31 "derivative"
  have G_derivative : Fn P w K mg base "derivative" 2 ["one"] M_derivative := (ok_derivative F_derivative hm_derivative B G_trimmed).weak le_derivative
  obtain ⟨f_flipped, fd_flipped, F_flipped, hm_flipped⟩ := fact_fn X G c 21 21 32 "flipped"
  have G_flipped : Fn P w K mg base "flipped" 1 ["one"] m_flipped := ok_flipped F_flipped hm_flipped B
  obtain ⟨f_value_of, fd_value_of, F_value_of, hm_value_of⟩ := fact_fn X G c 22 22 33 "value_of"
  have G_value_of : Fn P w K mg base "value_of" 3 ["one", "told"] M_value_of := (ok_value_of F_value_of hm_value_of B G_times G_plus).weak le_value_of
  obtain ⟨f_even_part, fd_even_part, F_even_part, hm_even_part⟩ := fact_fn X G c 23 23 34 "even_part"
  have G_even_part : Fn P w K mg base "even_part" 2 ["one"] m_even_part := ok_even_part F_even_part hm_even_part B G_trimmed
  obtain ⟨f_odd_part, fd_odd_part, F_odd_part, hm_odd_part⟩ := fact_fn X G c 24 24 35 "odd_part"
  have G_odd_part : Fn P w K mg base "odd_part" 2 ["one"] m_odd_part := ok_odd_part F_odd_part hm_odd_part B G_trimmed
  obtain ⟨f_ordered, fd_ordered, F_ordered, hm_ordered⟩ := fact_fn X G c 25 25 36 "ordered"
  have G_ordered : Fn P w K mg base "ordered" 1 ["one"] m_ordered := ok_ordered F_ordered hm_ordered B
  obtain ⟨f_made, fd_made, F_made, hm_made⟩ := fact_fn X G c 26 26 39 "made"
  have G_made : Fn P w K mg base "made" 6 ["top", "bottom"] m_made := ok_made F_made hm_made B G_common G_quotient G_content
  obtain ⟨f_is_function, fd_is_function, F_is_function, hm_is_function⟩ := fact_fn X G c 27 27 40 "is_function"
  have G_is_function : Fn P w K mg base "is_function" 7 ["value"] m_is_function := ok_is_function F_is_function hm_is_function B G_is_poly G_made
  obtain ⟨f_need_function, fd_need_function, F_need_function, hm_need_function⟩ := fact_fn X G c 28 28 41 "need_function"
  have G_need_function : Fn P w K mg base "need_function" 8 ["value"] m_need_function := ok_need_function F_need_function hm_need_function B G_is_function
  obtain ⟨f_function, fd_function, F_function, hm_function⟩ := fact_fn X G c 29 29 42 "function"
  have G_function : Fn P w K mg base "function" 7 ["top", "bottom"] m_function := ok_function F_function hm_function B G_need_poly G_made
  obtain ⟨f_chain_of, fd_chain_of, F_chain_of, hm_chain_of⟩ := fact_fn X G c 30 30 44 "chain_of"
  have G_chain_of : Fn P w K mg base "chain_of" 5 ["one"] m_chain_of := ok_chain_of F_chain_of hm_chain_of B G_derivative G_remainder G_scaled
  obtain ⟨f_changes, fd_changes, F_changes, hm_changes⟩ := fact_fn X G c 31 31 45 "changes"
  have G_changes : Fn P w K mg base "changes" 1 ["signs"] m_changes := ok_changes F_changes hm_changes B
  obtain ⟨f_sign_of, fd_sign_of, F_sign_of, hm_sign_of⟩ := fact_fn X G c 32 32 46 "sign_of"
  have G_sign_of : Fn P w K mg base "sign_of" 1 ["number"] m_sign_of := ok_sign_of F_sign_of hm_sign_of B
  obtain ⟨f_signs_at, fd_signs_at, F_signs_at, hm_signs_at⟩ := fact_fn X G c 33 33 47 "signs_at"
  have G_signs_at : Fn P w K mg base "signs_at" 4 ["chain", "told", "side"] m_signs_at := ok_signs_at F_signs_at hm_signs_at B G_value_of G_sign_of
  obtain ⟨f_roots_in, fd_roots_in, F_roots_in, hm_roots_in⟩ := fact_fn X G c 34 34 48 "roots_in"
  have G_roots_in : Fn P w K mg base "roots_in" 6 ["one", "low", "high"] m_roots_in := ok_roots_in F_roots_in hm_roots_in B G_derivative G_common G_quotient G_chain_of G_signs_at G_changes
  obtain ⟨f_less_lead, fd_less_lead, F_less_lead, hm_less_lead⟩ := fact_fn X G c 36 36 50 "less_lead"
  have G_less_lead : Fn P w K mg base "less_lead" 1 ["first", "second", "shifted"] m_less_lead := ok_less_lead F_less_lead hm_less_lead B
  obtain ⟨f_is_on_left, fd_is_on_left, F_is_on_left, hm_is_on_left⟩ := fact_fn X G c 35 35 49 "is_on_left"
  have G_is_on_left : Fn P w K mg base "is_on_left" 3 ["one"] m_is_on_left := ok_is_on_left F_is_on_left hm_is_on_left B G_odd_part G_even_part G_less_lead
  obtain ⟨f_odd_roots, fd_odd_roots, F_odd_roots, hm_odd_roots⟩ := fact_fn X G c 37 37 51 "odd_roots"
  have G_odd_roots : Fn P w K mg base "odd_roots" 6 ["one"] m_odd_roots := ok_odd_roots F_odd_roots hm_odd_roots B G_derivative G_common G_quotient G_poly_times
  obtain ⟨f_is_at_least_zero, fd_is_at_least_zero, F_is_at_least_zero, hm_is_at_least_zero⟩ := fact_fn X G c 38 38 52 "is_at_least_zero"
  have G_is_at_least_zero : Fn P w K mg base "is_at_least_zero" 7 ["one"] m_is_at_least_zero := ok_is_at_least_zero F_is_at_least_zero hm_is_at_least_zero B G_ordered G_odd_roots G_roots_in
  obtain ⟨f_alternating, fd_alternating, F_alternating, hm_alternating⟩ := fact_fn X G c 39 39 54 "alternating"
  have G_alternating : Fn P w K mg base "alternating" 2 ["one"] m_alternating := ok_alternating F_alternating hm_alternating B G_flipped
  obtain ⟨f_real_top, fd_real_top, F_real_top, hm_real_top⟩ := fact_fn X G c 40 40 55 "real_top"
  have G_real_top : Fn P w K mg base "real_top" 4 ["top", "bottom"] m_real_top := ok_real_top F_real_top hm_real_top B G_even_part G_poly_times G_odd_part G_poly_minus G_alternating
  obtain ⟨f_is_good_on_axis, fd_is_good_on_axis, F_is_good_on_axis, hm_is_good_on_axis⟩ := fact_fn X G c 41 41 56 "is_good_on_axis"
  have G_is_good_on_axis : Fn P w K mg base "is_good_on_axis" 8 ["one"] m_is_good_on_axis := ok_is_good_on_axis F_is_good_on_axis hm_is_good_on_axis B G_real_top G_is_at_least_zero
  obtain ⟨f_positive, fd_positive, F_positive, hm_positive⟩ := fact_fn X G c 42 42 57 "positive"
  have G_positive : Fn P w K mg base "positive" 9 ["one"] m_positive := ok_positive F_positive hm_positive B G_poly_plus G_is_on_left G_is_good_on_axis
  obtain ⟨f_axis_factor, fd_axis_factor, F_axis_factor, hm_axis_factor⟩ := fact_fn X G c 43 43 58 "axis_factor"
  have G_axis_factor : Fn P w K mg base "axis_factor" 6 ["one"] m_axis_factor := ok_axis_factor F_axis_factor hm_axis_factor B G_ordered G_odd_part G_even_part G_common
  obtain ⟨f_is_odd, fd_is_odd, F_is_odd, hm_is_odd⟩ := fact_fn X G c 44 44 60 "is_odd"
  have G_is_odd : Fn P w K mg base "is_odd" 3 ["one"] m_is_odd := ok_is_odd F_is_odd hm_is_odd B G_flipped G_poly_times G_scaled
  obtain ⟨f_lossless, fd_lossless, F_lossless, hm_lossless⟩ := fact_fn X G c 45 45 61 "lossless"
  have G_lossless : Fn P w K mg base "lossless" 10 ["one"] m_lossless := ok_lossless F_lossless hm_lossless B G_is_odd G_positive
  obtain ⟨f_is_lossless, fd_is_lossless, F_is_lossless, hm_is_lossless⟩ := fact_fn X G c 46 46 62 "is_lossless"
  have G_is_lossless : Fn P w K mg base "is_lossless" 11 ["one"] m_is_lossless := ok_is_lossless F_is_lossless hm_is_lossless B G_need_function G_lossless
  obtain ⟨f_far_of, fd_far_of, F_far_of, hm_far_of⟩ := fact_fn X G c 47 47 64 "far_of"
  have G_far_of : Fn P w K mg base "far_of" 2 ["one"] m_far_of := ok_far_of F_far_of hm_far_of B G_ratio
  obtain ⟨f_near_of, fd_near_of, F_near_of, hm_near_of⟩ := fact_fn X G c 48 48 65 "near_of"
  have G_near_of : Fn P w K mg base "near_of" 2 ["one"] m_near_of := ok_near_of F_near_of hm_near_of B G_ratio
  obtain ⟨f_root_in, fd_root_in, F_root_in, hm_root_in⟩ := fact_fn X G c 49 49 67 "root_in"
  have G_root_in : Fn P w K mg base "root_in" 7 ["one", "low", "high"] m_root_in := ok_root_in F_root_in hm_root_in B G_minus G_ratio G_roots_in G_is_less G_value_of
  obtain ⟨f_rational_roots, fd_rational_roots, F_rational_roots, hm_rational_roots⟩ := fact_fn X G c 50 50 68 "rational_roots"
  have G_rational_roots : Fn P w K mg base "rational_roots" 8 ["one"] m_rational_roots := ok_rational_roots F_rational_roots hm_rational_roots B G_roots_in G_times G_root_in G_ratio
  obtain ⟨f_limit_at, fd_limit_at, F_limit_at, hm_limit_at⟩ := fact_fn X G c 51 51 69 "limit_at"
  have G_limit_at : Fn P w K mg base "limit_at" 4 ["one", "square"] m_limit_at := ok_limit_at F_limit_at hm_limit_at B G_value_of G_derivative G_over G_times
  obtain ⟨f_tank_parts, fd_tank_parts, F_tank_parts, hm_tank_parts⟩ := fact_fn X G c 52 52 70 "tank_parts"
  have G_tank_parts : Fn P w K mg base "tank_parts" 11 ["one"] m_tank_parts := ok_tank_parts F_tank_parts hm_tank_parts B G_need_function G_lossless G_axis_factor G_flipped G_rational_roots G_limit_at G_near_of G_far_of
  obtain ⟨f_law_shared, fd_law_shared, F_law_shared, hm_law_shared⟩ := fact_fn X G c 54 54 73 "_law_shared"
  have G_law_shared : Fn P w K mg base "_law_shared" 1 ["_law_one", "_law_other"] m_law_shared := ok_law_shared F_law_shared hm_law_shared B
  obtain ⟨f_law_ratio, fd_law_ratio, F_law_ratio, hm_law_ratio⟩ := fact_fn X G c 55 55 74 "_law_ratio"
  have G_law_ratio : Fn P w K mg base "_law_ratio" 2 ["_law_top", "_law_bottom"] m_law_ratio := ok_law_ratio F_law_ratio hm_law_ratio B G_law_shared
  obtain ⟨f_law_is_square, fd_law_is_square, F_law_is_square, hm_law_is_square⟩ := fact_fn X G c 56 56 75 "_law_is_square"
  have G_law_is_square : Fn P w K mg base "_law_is_square" 1 ["_law_number"] m_law_is_square := ok_law_is_square F_law_is_square hm_law_is_square B
  exact ⟨G_function, G_is_lossless, G_tank_parts, G_law_ratio, G_law_is_square⟩
end
end FT
end -- GA
section -- LT
set_option Elab.async false
set_option linter.all false
set_option maxRecDepth 100000
set_option maxHeartbeats 4000000
/-! _law_taken: by hand, over a list that it writes -/
namespace FT
open PySem PySem.Spec PyProof.Rows L2 FL
/-- the heaps agree off a -/
def OffA (a : Addr) (H H' : Hp) : Prop := ∀ b, b ≠ a → H' b = H b
theorem OffA.refl (a : Addr) (H : Hp) : OffA a H H := fun _ _ => rfl
theorem OffA.upd {a : Addr} {H H' : Hp} {o : HO} (h : OffA a H H') : OffA a H (upd H' a o) := fun b hb => (upd_ne hb).trans (h b hb)
theorem OffA.trans {a : Addr} {H H' H2 : Hp} (h : OffA a H H') (g : OffA a H' H2) : OffA a H H2 := fun b hb => (g b hb).trans (h b hb)
/-- a sequence that stands where the row does not -/
theorem seq_off {K : PySem.W.Frag} {a b : Addr} {H : Hp} {o : HO} {xs : List V} (n : H a = none) (s : SqL K H b xs) : ∀ H', OffA a (upd H a o) H' → SqL K H' b xs := fun H' h => by
  have g : ∀ z, H b = some z → H' b = some z := fun z e => by
    have hb : b ≠ a := by
      intro x
      rw [x, n] at e
      cases e
    exact (h b hb).trans ((upd_ne hb).trans e)
  rcases s with (s | ⟨o, s⟩) | s
  · exact .inl (.inl (g _ s))
  · exact .inl (.inr ⟨o, g _ s⟩)
  · exact .inr s
/-- the row of the draws: the script, the place, the seed, the rest -/
def rowO (sc : Addr) (i sd rs : Int) : HO := .lst [.ref sc, .int i, .int sd, .int rs]
def spTaken (K : PySem.W.Frag) : Sp := fun vs H Q _ => ∃ (row sc : Addr) (ns : List Int) (i sd rs m : Int), vs = [.ref row, .int m] ∧ H row = some (rowO sc i sd rs) ∧ (∀ H', OffA row H H' → SqL K H' sc (ns.map V.int)) ∧ 0 ≤ i ∧ 0 < m ∧ m < 1000 ∧
  ∀ (r i' sd' rs' : Int) (H' : Hp), 0 ≤ r → r < m → 0 ≤ i' → OffA row H H' → H' row = some (rowO sc i' sd' rs') → Q (.int r) H'
theorem fmod_lo {x m : Int} (h : 0 < m) : 0 ≤ x.fmod m := Int.fmod_nonneg_of_pos _ h
theorem fmod_hi {x m : Int} (h : 0 < m) : x.fmod m < m := Int.fmod_lt_of_pos _ h
theorem pow18 : ((10 : Int) ^ (18 : Int).toNat) = 10 ^ 18 := rfl
section
variable {P : Program} {w : World} {K : PySem.W.Frag} {mg : Str → Option Value} {base : Heap}
theorem ok_law_taken {f : Addr} {fd : FuncData} {k : Nat} (F : Fun K "_law_taken" "_law_taken" s_law_taken f fd) (B : Bi K mg) : FnOk P w K mg base CX0 (k + 1) f fd ["_law_row", "_law_many"] (spTaken K) := by
  have S := sc_law_taken
  refine F.ok S (fun vs H Q E h => ?_) (fun cdv A outer s H vs Q E hr h => ?_)
  · obtain ⟨row, sc, ns, i, sd, rs, m, rfl, _⟩ := h
    rfl
  · obtain ⟨row, sc, ns, i, sd, rs, m, rfl, hrow, hS, hi, hm, hm2, q⟩ := h
    refine ⟨_, pss_cons (ps_if (pt_cmpR op_gt (pe_ix ix_list (pv 0) pe_int (fun _ _ => rfl)) pe_int (nomark _))
        (pss_cons (ps_set (i := 2) S.nd rfl (.inl rfl) (pe_op op_modN (pe_callTy call_int1 (by rfl) B.int PyProof.Rows.boot_int (pa_cons (pe_ix ix_list (pv 0) pe_int (fun _ _ => rfl)) pa_nil)) (pv 1)))
        (pss_cons (ps_asg (pe_op op_fdivN (pe_ix ix_list (pv 0) pe_int (fun _ _ => rfl)) (pv 1)) (pg_sub (pv 0) pe_int set_list))
        (pss_one (ps_ret (pv 2))))) pss_nil)
      (pss_cons (ps_asg (pe_op op_add (pe_ix ix_list (pv 0) pe_int (fun _ _ => rfl)) pe_int) (pg_sub (pv 0) pe_int set_list))
      (pss_cons (ps_if (pt_cmpR op_gt (pe_ix ix_list (pv 0) pe_int (fun _ _ => rfl)) (pe_callB call_len_seq (by rfl) B.len PySem.boot_len (pa_cons (pe_ix ix_list (pv 0) pe_int (fun _ _ => rfl)) pa_nil)) (nomark _))
        (pss_cons (ps_asg (pe_op op_modN (pe_callTy call_int1 (by rfl) B.int PyProof.Rows.boot_int (pa_cons (pe_op op_add (pe_op op_mul (pe_ix ix_list (pv 0) pe_int (fun _ _ => rfl)) pe_int) pe_int) pa_nil)) pe_int) (pg_sub (pv 0) pe_int set_list))
        (pss_one (ps_ret (pe_op op_modN (pe_callTy call_int1 (by rfl) B.int PyProof.Rows.boot_int (pa_cons (pe_op op_fdivN (pe_ix ix_list (pv 0) pe_int (fun _ _ => rfl)) pe_int) pa_nil)) (pv 1))))) pss_nil)
      (pss_cons (ps_set (i := 3) S.nd rfl (.inl rfl) (pe_ix ix_list (pe_ix ix_list (pv 0) pe_int (fun _ _ => rfl)) (pe_op op_sub (pe_ix ix_list (pv 0) pe_int (fun _ _ => rfl)) pe_int) (fun _ _ => rfl)))
      (pss_cons (ps_asg (pe_op op_modN (pe_callTy call_int1 (by rfl) B.int PyProof.Rows.boot_int (pa_cons (pe_op op_add (pe_op op_add (pe_op op_mul (pe_ix ix_list (pv 0) pe_int (fun _ _ => rfl)) pe_int) (pv 3)) pe_int) pa_nil)) pe_int) (pg_sub (pv 0) pe_int set_list))
      (pss_cons (ps_if (pt_cmpR op_ge (pv 3) (pe_op op_pow pe_int pe_int) (nomark _))
        (pss_one (ps_asg (pe_op op_fdivN (pv 3) (pv 1)) (pg_sub (pv 0) pe_int set_list))) pss_nil)
      (pss_one (ps_ret (pe_op op_modN (pe_callTy call_int1 (by rfl) B.int PyProof.Rows.boot_int (pa_cons (pv 3) pa_nil)) (pv 1))))))))), ?_⟩
    have hR : SqL K H row [.ref sc, .int i, .int sd, .int rs] := .inl (.inl hrow)
    have hm0 : m ≠ 0 := by omega
    have hmb : m.natAbs < 1073741824 := by omega
    refine ⟨.ref row, rfl, row, _, 3, .int rs, rfl, rfl, hR, rfl, rs, 0, rfl, rfl, _, rfl, ite2 (fun _ => ?_) (fun _ => ?_)⟩
    · refine ⟨.ref row, rfl, row, _, 3, .int rs, rfl, rfl, hR, rfl, .inl ⟨rs, rfl, .int m, rfl, rs, m, rfl, rfl, hm0, ?_⟩⟩
      refine ⟨.ref row, rfl, row, _, 3, .int rs, rfl, rfl, hR, rfl, .int m, rfl, rs, m, rfl, rfl, ⟨hm0, hmb⟩, .ref row, rfl, row, _, 3, 3, rfl, rfl, hrow, rfl, ?_⟩
      exact ⟨.int (rs.fmod m), rfl, q _ i sd (rs.fdiv m) _ (fmod_lo hm) (fmod_hi hm) hi (OffA.upd (OffA.refl _ _)) upd_same⟩
    · -- row[1] = row[1] + 1
      refine ⟨.ref row, rfl, row, _, 1, .int i, rfl, rfl, hR, rfl, i, 1, rfl, rfl, .ref row, rfl, row, _, 1, 1, rfl, rfl, hrow, rfl, ?_⟩
      generalize e1 : upd H row (.lst (([.ref sc, .int i, .int sd, .int rs] : List V).set 1 (.int (i + 1)))) = H1
      have o1 : OffA row H H1 := e1 ▸ OffA.upd (OffA.refl _ _)
      have r1 : H1 row = some (rowO sc (i + 1) sd rs) := e1 ▸ upd_same
      have hR1 : SqL K H1 row [.ref sc, .int (i + 1), .int sd, .int rs] := .inl (.inl r1)
      have hS1 : SqL K H1 sc (ns.map V.int) := hS _ o1
      refine ⟨.ref row, rfl, row, _, 1, .int (i + 1), rfl, rfl, hR1, rfl, .ref row, rfl, row, _, 0, .ref sc, rfl, rfl, hR1, rfl, sc, _, rfl, .inl hS1, i + 1, _, rfl, rfl, _, rfl, ite2 (fun _ => ?_) (fun hlen => ?_)⟩
      · -- behind the script's end
        refine ⟨.ref row, rfl, row, _, 2, .int sd, rfl, rfl, hR1, rfl, sd, 48271, rfl, rfl, .inr ⟨by decide, by decide⟩, _, 11, rfl, rfl, .inl ⟨_, rfl, _, 2147483647, rfl, rfl, (show (2147483647 : Int) ≠ 0 by decide), .ref row, rfl, row, _, 2, 2, rfl, rfl, r1, rfl, ?_⟩⟩
        have o2 : OffA row H (upd H1 row (.lst (([.ref sc, .int (i + 1), .int sd, .int rs] : List V).set 2 (.int ((sd * 48271 + 11).fmod 2147483647))))) := OffA.upd o1
        have r2 : (upd H1 row (.lst (([.ref sc, .int (i + 1), .int sd, .int rs] : List V).set 2 (.int ((sd * 48271 + 11).fmod 2147483647))))) row = some (rowO sc (i + 1) ((sd * 48271 + 11).fmod 2147483647) rs) := upd_same
        have hR2 : SqL K (upd H1 row (.lst (([.ref sc, .int (i + 1), .int sd, .int rs] : List V).set 2 (.int ((sd * 48271 + 11).fmod 2147483647))))) row [.ref sc, .int (i + 1), .int ((sd * 48271 + 11).fmod 2147483647), .int rs] := .inl (.inl r2)
        refine ⟨.ref row, rfl, row, _, 2, _, rfl, rfl, hR2, rfl, _, 7, rfl, rfl, ⟨by decide, by decide⟩, .inl ⟨_, rfl, .int m, rfl, _, m, rfl, rfl, hm0, ?_⟩⟩
        exact q _ (i + 1) _ rs _ (fmod_lo hm) (fmod_hi hm) (by omega) o2 r2
      · -- the cell
        have hl : ¬ (((ns.map V.int).length : Int) < i + 1) := fun z => hlen (decide_eq_true z)
        rw [List.length_map] at hl
        have hj : i.toNat < ns.length := by omega
        have ei : i + 1 - 1 = ((i.toNat : Nat) : Int) := by omega
        refine ⟨.ref row, rfl, row, _, 0, .ref sc, rfl, rfl, hR1, rfl, .ref row, rfl, row, _, 1, .int (i + 1), rfl, rfl, hR1, rfl, i + 1, 1, rfl, rfl, sc, _, _, .int (cellOf ns i.toNat), rfl, rfl, hS1, ei ▸ atI_cell hj, ?_⟩
        generalize cellOf ns i.toNat = cell
        refine ⟨.ref row, rfl, row, _, 2, .int sd, rfl, rfl, hR1, rfl, sd, 48271, rfl, rfl, .inr ⟨by decide, by decide⟩, .int cell, rfl, _, cell, rfl, rfl, _, 11, rfl, rfl, .inl ⟨_, rfl, _, 2147483647, rfl, rfl, (show (2147483647 : Int) ≠ 0 by decide), .ref row, rfl, row, _, 2, 2, rfl, rfl, r1, rfl, ?_⟩⟩
        have o2 : OffA row H (upd H1 row (.lst (([.ref sc, .int (i + 1), .int sd, .int rs] : List V).set 2 (.int ((sd * 48271 + cell + 11).fmod 2147483647))))) := OffA.upd o1
        have r2 : (upd H1 row (.lst (([.ref sc, .int (i + 1), .int sd, .int rs] : List V).set 2 (.int ((sd * 48271 + cell + 11).fmod 2147483647))))) row = some (rowO sc (i + 1) ((sd * 48271 + cell + 11).fmod 2147483647) rs) := upd_same
        have hR2 : SqL K (upd H1 row (.lst (([.ref sc, .int (i + 1), .int sd, .int rs] : List V).set 2 (.int ((sd * 48271 + cell + 11).fmod 2147483647))))) row [.ref sc, .int (i + 1), .int ((sd * 48271 + cell + 11).fmod 2147483647), .int rs] := .inl (.inl r2)
        refine ⟨.int cell, rfl, 10, 18, rfl, rfl, ⟨by decide, by decide, by decide⟩, cell, _, rfl, rfl, _, rfl, ite2 (fun _ => ?_) (fun _ => ?_)⟩
        · refine ⟨.int cell, rfl, .int m, rfl, cell, m, rfl, rfl, ⟨hm0, hmb⟩, .ref row, rfl, row, _, 3, 3, rfl, rfl, r2, rfl, ?_⟩
          exact ⟨.int cell, rfl, .inl ⟨cell, rfl, .int m, rfl, cell, m, rfl, rfl, hm0, q _ (i + 1) _ (cell.fdiv m) _ (fmod_lo hm) (fmod_hi hm) (by omega) (OffA.upd o2) upd_same⟩⟩
        · exact ⟨.int cell, rfl, .inl ⟨cell, rfl, .int m, rfl, cell, m, rfl, rfl, hm0, q _ (i + 1) _ rs _ (fmod_lo hm) (fmod_hi hm) (by omega) o2 r2⟩⟩
end
end FT
end -- LT
section -- LW
set_option Elab.async false
set_option linter.all false
set_option maxRecDepth 100000
set_option maxHeartbeats 4000000
/-! law -/
namespace FT
open PySem PySem.Spec PyProof.Rows L2 FL
noncomputable def envL (a b c : Nat) : Ev := [none, none, some (.d (.int ((1 + a : Nat) : Int))), some (.d (.int ((2 + b : Nat) : Int))), some (.d (.int ((1 + c : Nat) : Int))), none, none, none, none, none]
def slotsL (sc row : Addr) (a b c : Int) : L2.St := [some (.ref sc), some (.ref row), some (.int a), some (.int b), some (.int c), none, none, none, none, none]
theorem rs_law {K : PySem.W.Frag} {H : Hp} {sc row : Addr} {a b c : Nat} : RS K H (slotsL sc row ((1 + a : Nat) : Int) ((2 + b : Nat) : Int) ((1 + c : Nat) : Int)) H (envL a b c) where
  same := .refl H
  len := rfl
  pure := fun i x e => match i, e with
    | 0, e => nomatch (show (none : Option R) = some (.d x) from e)
    | 1, e => nomatch (show (none : Option R) = some (.d x) from e)
    | 2, e => by
      cases e
      exact ⟨_, rfl, rfl⟩
    | 3, e => by
      cases e
      exact ⟨_, rfl, rfl⟩
    | 4, e => by
      cases e
      exact ⟨_, rfl, rfl⟩
    | 5, e => nomatch (show (none : Option R) = some (.d x) from e)
    | 6, e => nomatch (show (none : Option R) = some (.d x) from e)
    | 7, e => nomatch (show (none : Option R) = some (.d x) from e)
    | 8, e => nomatch (show (none : Option R) = some (.d x) from e)
    | 9, e => nomatch (show (none : Option R) = some (.d x) from e)
    | n + 10, e => nomatch (show (none : Option R) = some (.d x) from e)
  lst := fun i o xs e => match i, e with
    | 0, e => nomatch (show (none : Option R) = some (.l o xs) from e)
    | 1, e => nomatch (show (none : Option R) = some (.l o xs) from e)
    | 2, e => by cases e
    | 3, e => by cases e
    | 4, e => by cases e
    | 5, e => nomatch (show (none : Option R) = some (.l o xs) from e)
    | 6, e => nomatch (show (none : Option R) = some (.l o xs) from e)
    | 7, e => nomatch (show (none : Option R) = some (.l o xs) from e)
    | 8, e => nomatch (show (none : Option R) = some (.l o xs) from e)
    | 9, e => nomatch (show (none : Option R) = some (.l o xs) from e)
    | n + 10, e => nomatch (show (none : Option R) = some (.l o xs) from e)
  own := fun i xs a e => match i, e with
    | 0, e => nomatch (show (none : Option R) = some (.l true xs) from e)
    | 1, e => nomatch (show (none : Option R) = some (.l true xs) from e)
    | 2, e => by cases e
    | 3, e => by cases e
    | 4, e => by cases e
    | 5, e => nomatch (show (none : Option R) = some (.l true xs) from e)
    | 6, e => nomatch (show (none : Option R) = some (.l true xs) from e)
    | 7, e => nomatch (show (none : Option R) = some (.l true xs) from e)
    | 8, e => nomatch (show (none : Option R) = some (.l true xs) from e)
    | 9, e => nomatch (show (none : Option R) = some (.l true xs) from e)
    | n + 10, e => nomatch (show (none : Option R) = some (.l true xs) from e)
/-- the plain law, at the inputs that the law draws -/
def PlainLaw : Prop := ∀ a b c : Nat, a < 6 → b < 14 → c < 14 → h_lawR (envL a b c) = some (.rt (.d (.bl true)))
def spLaw (K : PySem.W.Frag) : Sp := fun vs H Q _ => ∃ (a : Addr) (ns : List Int), vs = [.ref a] ∧ SqL K H a (ns.map V.int) ∧ ∀ H', Q (.bl true) H'
section
variable {P : Program} {w : World} {K : PySem.W.Frag} {mg : Str → Option Value} {base : Heap}
theorem nat_of {r m : Int} (h0 : 0 ≤ r) (h1 : r < m) {n : Nat} (hn : m = (n : Int)) (k : Nat) : ∃ a : Nat, a < n ∧ ((k : Nat) : Int) + r = ((k + a : Nat) : Int) := ⟨r.toNat, by omega, by omega⟩
theorem ok_law {f fT : Addr} {fd fdT : FuncData} (F : Fun K "law" "law" s_law f fd) (C : Calls P w K mg base) (B : Bi K mg) (FT : Fun K "_law_taken" "_law_taken" s_law_taken fT fdT) (gT : mg "_law_taken" = some (.ref fT)) (PL : PlainLaw) : FnOk P w K mg base CX0 12 f fd ["_law_script"] (spLaw K) := by
  have S := sc_law
  have GT : FnOk P w K mg base CX0 1 fT fdT ["_law_row", "_law_many"] (spTaken K) := ok_law_taken FT B
  have bT : Binds K fdT ["_law_row", "_law_many"] [] := FT.binds fun _ _ _ _ _ _ us hl => match us, hl with | [_, _], _ => rfl
  refine F.ok S (fun vs H Q E h => ?_) (fun cdv A outer s H vs Q E hr h => ?_)
  · obtain ⟨a, ns, rfl, _⟩ := h
    rfl
  · obtain ⟨sc, ns, rfl, hS, q⟩ := h
    refine ⟨_, pss_cons (ps_set (i := 1) S.nd rfl (.inl rfl) (pe_lst (pa_cons (pv 0) (pa_cons pe_int (pa_cons pe_int (pa_cons pe_int pa_nil))))))
      (pss_cons (ps_par3 (i := 2) (j := 3) (l := 4) rfl S.nd rfl rfl rfl (by decide) (by decide) (by decide) rfl rfl rfl
        (pa_cons (pe_op op_add pe_int (pe_call GT (hr.mono (by decide)) (by rfl) gT FT.kp bT .nil pass0 (pa_cons (pv 1) (pa_cons pe_int pa_nil))))
        (pa_cons (pe_op op_add pe_int (pe_call GT (hr.mono (by decide)) (by rfl) gT FT.kp bT .nil pass0 (pa_cons (pv 1) (pa_cons pe_int pa_nil))))
        (pa_cons (pe_op op_add pe_int (pe_call GT (hr.mono (by decide)) (by rfl) gT FT.kp bT .nil pass0 (pa_cons (pv 1) (pa_cons pe_int pa_nil)))) pa_nil))) (by rfl))
      (ok_lawR B C.function C.is_lossless C.tank_parts C.law_ratio C.law_is_square cdv A outer s H E f hr)), ?_⟩
    -- the row
    refine ⟨.ref sc, rfl, Nat.le_of_ble_eq_true rfl, fun row hn => ?_⟩
    have hS1 := seq_off (o := rowO sc 0 3351 0) hn hS
    -- three draws
    refine ⟨.ref row, rfl, row, sc, ns, 0, 3351, 0, 6, rfl, upd_same, hS1, by decide, by decide, by decide, fun r1 i1 sd1 rs1 H1 lo1 hi1 hi0 o1 e1 => ?_⟩
    refine ⟨1, r1, rfl, rfl, .ref row, rfl, row, sc, ns, i1, sd1, rs1, 14, rfl, e1, fun H' o => hS1 H' (o1.trans o), hi0, by decide, by decide, fun r2 i2 sd2 rs2 H2 lo2 hi2 hi02 o2 e2 => ?_⟩
    refine ⟨2, r2, rfl, rfl, .ref row, rfl, row, sc, ns, i2, sd2, rs2, 14, rfl, e2, fun H' o => hS1 H' ((o1.trans o2).trans o), hi02, by decide, by decide, fun r3 i3 sd3 rs3 H3 lo3 hi3 hi03 o3 e3 => ?_⟩
    refine ⟨1, r3, rfl, rfl, _, _, _, rfl, ?_⟩
    obtain ⟨a, ha, ea⟩ := nat_of lo1 hi1 (n := 6) rfl 1
    obtain ⟨b, hb, eb⟩ := nat_of lo2 hi2 (n := 14) rfl 2
    obtain ⟨c, hc, ec⟩ := nat_of lo3 hi3 (n := 14) rfl 1
    have e : ((([some (V.ref sc), some (V.ref row), none, none, none, none, none, none, none, none] : L2.St).set 2 (some (.int (1 + r1)))).set 3 (some (.int (2 + r2)))).set 4 (some (.int (1 + r3))) = slotsL sc row ((1 + a : Nat) : Int) ((2 + b : Nat) : Int) ((1 + c : Nat) : Int) := by
      rw [← ea, ← eb, ← ec]
      rfl
    refine ⟨H3, envL a b c, .rt (.d (.bl true)), ?_, PL a b c ha hb hc, fun v H' _ ev => ?_⟩
    · show RS K H3 (((([some (V.ref sc), some (V.ref row), none, none, none, none, none, none, none, none] : L2.St).set 2 (some (.int (1 + r1)))).set 3 (some (.int (2 + r2)))).set 4 (some (.int (1 + r3)))) H3 (envL a b c)
      rw [e]
      exact rs_law
    · have ev2 : v = .bl true := ev
      rw [ev2]
      exact q H'
end
end FT
end -- LW
section -- PLM
set_option Elab.async false
set_option linter.all false
set_option maxRecDepth 1000000
/-! the plain law, by the kernel -/
noncomputable section
namespace FT
open PySem PySem.Spec PyProof.Rows L2 FL
def lawC (a b c : Nat) : Bool := match h_lawR (envL a b c) with
  | some (.rt (.d (.bl true))) => true
  | _ => false
theorem lawC_ok {a b c : Nat} (h : lawC a b c = true) : h_lawR (envL a b c) = some (.rt (.d (.bl true))) := by
  unfold lawC at h
  split at h
  · assumption
  · cases h
def lawRow (a b : Nat) : Bool := (List.range 14).all fun c => lawC a b c
theorem pl_0_0 : lawRow 0 0 = true := by decide +kernel
theorem pl_0_1 : lawRow 0 1 = true := by decide +kernel
theorem pl_0_2 : lawRow 0 2 = true := by decide +kernel
theorem pl_0_3 : lawRow 0 3 = true := by decide +kernel
theorem pl_0_4 : lawRow 0 4 = true := by decide +kernel
theorem pl_0_5 : lawRow 0 5 = true := by decide +kernel
theorem pl_0_6 : lawRow 0 6 = true := by decide +kernel
theorem pl_0_7 : lawRow 0 7 = true := by decide +kernel
theorem pl_0_8 : lawRow 0 8 = true := by decide +kernel
theorem pl_0_9 : lawRow 0 9 = true := by decide +kernel
theorem pl_0_10 : lawRow 0 10 = true := by decide +kernel
theorem pl_0_11 : lawRow 0 11 = true := by decide +kernel
theorem pl_0_12 : lawRow 0 12 = true := by decide +kernel
theorem pl_0_13 : lawRow 0 13 = true := by decide +kernel
theorem pl_1_0 : lawRow 1 0 = true := by decide +kernel
theorem pl_1_1 : lawRow 1 1 = true := by decide +kernel
theorem pl_1_2 : lawRow 1 2 = true := by decide +kernel
theorem pl_1_3 : lawRow 1 3 = true := by decide +kernel
theorem pl_1_4 : lawRow 1 4 = true := by decide +kernel
theorem pl_1_5 : lawRow 1 5 = true := by decide +kernel
theorem pl_1_6 : lawRow 1 6 = true := by decide +kernel
theorem pl_1_7 : lawRow 1 7 = true := by decide +kernel
theorem pl_1_8 : lawRow 1 8 = true := by decide +kernel
theorem pl_1_9 : lawRow 1 9 = true := by decide +kernel
theorem pl_1_10 : lawRow 1 10 = true := by decide +kernel
theorem pl_1_11 : lawRow 1 11 = true := by decide +kernel
theorem pl_1_12 : lawRow 1 12 = true := by decide +kernel
theorem pl_1_13 : lawRow 1 13 = true := by decide +kernel
theorem pl_2_0 : lawRow 2 0 = true := by decide +kernel
theorem pl_2_1 : lawRow 2 1 = true := by decide +kernel
theorem pl_2_2 : lawRow 2 2 = true := by decide +kernel
theorem pl_2_3 : lawRow 2 3 = true := by decide +kernel
theorem pl_2_4 : lawRow 2 4 = true := by decide +kernel
theorem pl_2_5 : lawRow 2 5 = true := by decide +kernel
theorem pl_2_6 : lawRow 2 6 = true := by decide +kernel
theorem pl_2_7 : lawRow 2 7 = true := by decide +kernel
theorem pl_2_8 : lawRow 2 8 = true := by decide +kernel
theorem pl_2_9 : lawRow 2 9 = true := by decide +kernel
theorem pl_2_10 : lawRow 2 10 = true := by decide +kernel
theorem pl_2_11 : lawRow 2 11 = true := by decide +kernel
theorem pl_2_12 : lawRow 2 12 = true := by decide +kernel
theorem pl_2_13 : lawRow 2 13 = true := by decide +kernel
theorem pl_3_0 : lawRow 3 0 = true := by decide +kernel
theorem pl_3_1 : lawRow 3 1 = true := by decide +kernel
theorem pl_3_2 : lawRow 3 2 = true := by decide +kernel
theorem pl_3_3 : lawRow 3 3 = true := by decide +kernel
theorem pl_3_4 : lawRow 3 4 = true := by decide +kernel
theorem pl_3_5 : lawRow 3 5 = true := by decide +kernel
theorem pl_3_6 : lawRow 3 6 = true := by decide +kernel
theorem pl_3_7 : lawRow 3 7 = true := by decide +kernel
theorem pl_3_8 : lawRow 3 8 = true := by decide +kernel
theorem pl_3_9 : lawRow 3 9 = true := by decide +kernel
theorem pl_3_10 : lawRow 3 10 = true := by decide +kernel
theorem pl_3_11 : lawRow 3 11 = true := by decide +kernel
theorem pl_3_12 : lawRow 3 12 = true := by decide +kernel
theorem pl_3_13 : lawRow 3 13 = true := by decide +kernel
theorem pl_4_0 : lawRow 4 0 = true := by decide +kernel
theorem pl_4_1 : lawRow 4 1 = true := by decide +kernel
theorem pl_4_2 : lawRow 4 2 = true := by decide +kernel
theorem pl_4_3 : lawRow 4 3 = true := by decide +kernel
theorem pl_4_4 : lawRow 4 4 = true := by decide +kernel
theorem pl_4_5 : lawRow 4 5 = true := by decide +kernel
theorem pl_4_6 : lawRow 4 6 = true := by decide +kernel
theorem pl_4_7 : lawRow 4 7 = true := by decide +kernel
theorem pl_4_8 : lawRow 4 8 = true := by decide +kernel
theorem pl_4_9 : lawRow 4 9 = true := by decide +kernel
theorem pl_4_10 : lawRow 4 10 = true := by decide +kernel
theorem pl_4_11 : lawRow 4 11 = true := by decide +kernel
theorem pl_4_12 : lawRow 4 12 = true := by decide +kernel
theorem pl_4_13 : lawRow 4 13 = true := by decide +kernel
theorem pl_5_0 : lawRow 5 0 = true := by decide +kernel
theorem pl_5_1 : lawRow 5 1 = true := by decide +kernel
theorem pl_5_2 : lawRow 5 2 = true := by decide +kernel
theorem pl_5_3 : lawRow 5 3 = true := by decide +kernel
theorem pl_5_4 : lawRow 5 4 = true := by decide +kernel
theorem pl_5_5 : lawRow 5 5 = true := by decide +kernel
theorem pl_5_6 : lawRow 5 6 = true := by decide +kernel
theorem pl_5_7 : lawRow 5 7 = true := by decide +kernel
theorem pl_5_8 : lawRow 5 8 = true := by decide +kernel
theorem pl_5_9 : lawRow 5 9 = true := by decide +kernel
theorem pl_5_10 : lawRow 5 10 = true := by decide +kernel
theorem pl_5_11 : lawRow 5 11 = true := by decide +kernel
theorem pl_5_12 : lawRow 5 12 = true := by decide +kernel
theorem pl_5_13 : lawRow 5 13 = true := by decide +kernel
theorem pl_0 (b : Nat) (hb : b < 14) : lawRow 0 b = true := match b, hb with
  | 0, _ => pl_0_0
  | 1, _ => pl_0_1
  | 2, _ => pl_0_2
  | 3, _ => pl_0_3
  | 4, _ => pl_0_4
  | 5, _ => pl_0_5
  | 6, _ => pl_0_6
  | 7, _ => pl_0_7
  | 8, _ => pl_0_8
  | 9, _ => pl_0_9
  | 10, _ => pl_0_10
  | 11, _ => pl_0_11
  | 12, _ => pl_0_12
  | 13, _ => pl_0_13
  | n + 14, h => absurd h (by omega)
theorem pl_1 (b : Nat) (hb : b < 14) : lawRow 1 b = true := match b, hb with
  | 0, _ => pl_1_0
  | 1, _ => pl_1_1
  | 2, _ => pl_1_2
  | 3, _ => pl_1_3
  | 4, _ => pl_1_4
  | 5, _ => pl_1_5
  | 6, _ => pl_1_6
  | 7, _ => pl_1_7
  | 8, _ => pl_1_8
  | 9, _ => pl_1_9
  | 10, _ => pl_1_10
  | 11, _ => pl_1_11
  | 12, _ => pl_1_12
  | 13, _ => pl_1_13
  | n + 14, h => absurd h (by omega)
theorem pl_2 (b : Nat) (hb : b < 14) : lawRow 2 b = true := match b, hb with
  | 0, _ => pl_2_0
  | 1, _ => pl_2_1
  | 2, _ => pl_2_2
  | 3, _ => pl_2_3
  | 4, _ => pl_2_4
  | 5, _ => pl_2_5
  | 6, _ => pl_2_6
  | 7, _ => pl_2_7
  | 8, _ => pl_2_8
  | 9, _ => pl_2_9
  | 10, _ => pl_2_10
  | 11, _ => pl_2_11
  | 12, _ => pl_2_12
  | 13, _ => pl_2_13
  | n + 14, h => absurd h (by omega)
theorem pl_3 (b : Nat) (hb : b < 14) : lawRow 3 b = true := match b, hb with
  | 0, _ => pl_3_0
  | 1, _ => pl_3_1
  | 2, _ => pl_3_2
  | 3, _ => pl_3_3
  | 4, _ => pl_3_4
  | 5, _ => pl_3_5
  | 6, _ => pl_3_6
  | 7, _ => pl_3_7
  | 8, _ => pl_3_8
  | 9, _ => pl_3_9
  | 10, _ => pl_3_10
  | 11, _ => pl_3_11
  | 12, _ => pl_3_12
  | 13, _ => pl_3_13
  | n + 14, h => absurd h (by omega)
theorem pl_4 (b : Nat) (hb : b < 14) : lawRow 4 b = true := match b, hb with
  | 0, _ => pl_4_0
  | 1, _ => pl_4_1
  | 2, _ => pl_4_2
  | 3, _ => pl_4_3
  | 4, _ => pl_4_4
  | 5, _ => pl_4_5
  | 6, _ => pl_4_6
  | 7, _ => pl_4_7
  | 8, _ => pl_4_8
  | 9, _ => pl_4_9
  | 10, _ => pl_4_10
  | 11, _ => pl_4_11
  | 12, _ => pl_4_12
  | 13, _ => pl_4_13
  | n + 14, h => absurd h (by omega)
theorem pl_5 (b : Nat) (hb : b < 14) : lawRow 5 b = true := match b, hb with
  | 0, _ => pl_5_0
  | 1, _ => pl_5_1
  | 2, _ => pl_5_2
  | 3, _ => pl_5_3
  | 4, _ => pl_5_4
  | 5, _ => pl_5_5
  | 6, _ => pl_5_6
  | 7, _ => pl_5_7
  | 8, _ => pl_5_8
  | 9, _ => pl_5_9
  | 10, _ => pl_5_10
  | 11, _ => pl_5_11
  | 12, _ => pl_5_12
  | 13, _ => pl_5_13
  | n + 14, h => absurd h (by omega)
theorem plain : PlainLaw := fun a b c ha hb hc => by
  have r : lawRow a b = true := match a, ha with
    | 0, _ => pl_0 b hb
    | 1, _ => pl_1 b hb
    | 2, _ => pl_2 b hb
    | 3, _ => pl_3 b hb
    | 4, _ => pl_4 b hb
    | 5, _ => pl_5 b hb
    | n + 6, h => absurd h (by omega)
  exact lawC_ok (List.all_eq_true.mp r c (List.mem_range.mpr hc))
end FT
end
end -- PLM
section -- EN
set_option Elab.async false
set_option linter.all false
set_option maxRecDepth 100000
set_option maxHeartbeats 0
/-! the end -/
namespace FT
open PySem PySem.Spec PyProof.Rows L2 FL
theorem facts {P : Program} {w : World} {K : PySem.W.Frag} {h : Heap} {mg : Str → Option Value} {f : Addr} (X : K.In h) (G : h.Ns mainGlobals mg) (hfa : mg ("law" : Str) = some (.ref f)) (c : He.SaysD fas fns K) (e : extra K = true) (PL : PlainLaw) :
    ∃ fd : FuncData, (∀ (s : Shared) (v : Value), BindsTo s fd ⟨[v], []⟩ [("_law_script", v)]) ∧ ∀ base : Heap, K.In base → base.Ns mainGlobals mg → FnOk P w K mg base CX0 12 f fd ["_law_script"] (spLaw K) := by
  obtain ⟨fd, F⟩ := c.def_ 57 (d := dD 76 "law") rfl
  obtain ⟨fT, fdT, FT, gT⟩ := fact_fn X G c 53 53 72 "_law_taken"
  have e1 := hfa.symm.trans (He.glo_ok X G (c.fact 57 (f := .glo "law") rfl))
  cases e1
  have b := FunD.bindsA (ps := ["_law_script"]) F fun _ _ _ _ _ _ us hl => match us, hl with | [_], _ => rfl
  exact ⟨fd, fun s v => b s [v] rfl, fun base _ _ => ok_law (fun_ofD F) (calls_of X G c e base) (bi_of X G c e) FT gT PL⟩
end FT
open PySem PySem.W PySem.Calls PyProof.Rows
theorem FT.holds_of (PL : FT.PlainLaw) : PySem.Challenge.rw_coilnets_k51_whole_tanks_by_none.Holds := by
  w_on; o_law
  refine FT.HI.head_I (r := OpenLaw.row PySem.Challenge.rw_coilnets_k51_whole_tanks_by_none) (q := view (OpenLaw.row PySem.Challenge.rw_coilnets_k51_whole_tanks_by_none).prog [76]) (H := FT.hk) (ob := FT.ob) (N := 4000) (loose := FT.loose) (d := HandSHeadRun.topDef (OpenLaw.row PySem.Challenge.rw_coilnets_k51_whole_tanks_by_none).prog 76) (kwd := []) FT.ob_eq
    FT.run (by kernel_rfl) (by kernel_rfl) (by kernel_rfl) (by rfl) (by first | assumption | decide +kernel) (by decide +kernel) ⟨rfl, rfl, rfl, rfl, rfl, by decide +kernel⟩ ?hw ?hc
  case hw => w_witness2
  case hc =>
    refine L2.walk_ofE (l := PySem.Challenge.rw_coilnets_k51_whole_tanks_by_none) (n := 63) (k := 12) (x := "_law_script") (CX := L2.CX0) rfl (by decide) (by kernel_rfl) ⟨rfl, by decide, by decide⟩ ?F (fun _ _ _ _ z => z)
    intro w mg fa h Y G hmg0
    obtain ⟨K, KX, c, e⟩ := Y
    have hmg : mg ("law" : PySem.Str) = some (.ref fa) := by
      have e : (HandSHeadRun.topDef (OpenLaw.row PySem.Challenge.rw_coilnets_k51_whole_tanks_by_none).prog 76).name = ("law" : PySem.Str) := by kernel_rfl
      rw [← e]
      exact hmg0
    obtain ⟨fd, hb, hF⟩ := FT.facts (P := (PySem.Challenge.rw_coilnets_k51_whole_tanks_by_none).prog) (w := w) KX G hmg c e PL
    exact ⟨K, fd, FT.spLaw K, KX, hb, fun H a ns hl _ hS => ⟨a, ns, rfl, hS, fun _ => rfl⟩, hF⟩
end -- EN
theorem PySem.Challenge.cw_coilnets_k51_whole_tanks_by_none_holds : PySem.Challenge.rw_coilnets_k51_whole_tanks_by_none.Holds := by
  exact FT.holds_of FT.plain
