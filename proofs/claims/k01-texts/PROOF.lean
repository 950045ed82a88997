import PyProof.Rows.All
import Wide.All
import OpenK.AllK
import Wide.FinOn
import HandS.ForExc
import HandS.Dict
import HandS.Comp
import HandS.Iter
import HandS.Text
import HandS.Conv
import HandS.Gcd
import HandS.Wide
import HandS.IsInst
import HandS.Deep
import HandS.Style
import PyProof.StrOps2
import HandS.FStr
import PySem.Challenge.RW_watchshifts_k01_ratios_as_texts
set_option Elab.async false
set_option linter.all false
set_option maxRecDepth 100000
set_option maxHeartbeats 4000000
/-! DL: data over the hand layer: what an expression's value is, as a tree of data; a frozen part of the heap that grows; lists that one name alone holds. -/
namespace DL
open PySem PySem.Spec PyProof.Rows L2

/-! ### data -/
inductive D where
  | non | bl (b : Bool) | int (i : Int) | str (x : Str) | ty (n : String) | lst (l : List D) | fls (l : List D) | tup (l : List D)
  | xr (a : Addr) | dk (ks : List Key) (l : List D) | dt (ks : List (List Key)) (l : List D) | ins (C : Addr) (ns : List Str) (l : List D)

mutual
inductive Rp (K : PySem.W.Frag) (G : Hp) : V → D → Prop
  | non : Rp K G .non .non
  | bl (b : Bool) : Rp K G (.bl b) (.bl b)
  | int (i : Int) : Rp K G (.int i) (.int i)
  | str (x : Str) : Rp K G (.str x) (.str x)
  | ty (n : String) : Rp K G (.ty n) (.ty n)
  | xr (a : Addr) : Rp K G (.ref a) (.xr a)
  | lst {a : Addr} {xs : List V} {ds : List D} : G a = some (.lst xs) → RpA K G xs ds → Rp K G (.ref a) (.lst ds)
  | fls {a : Addr} {xs : List V} {ds : List D} : SqL K G a xs → RpA K G xs ds → Rp K G (.ref a) (.fls ds)
  | tup {a : Addr} {xs : List V} {ds : List D} : SqT K G a xs → RpA K G xs ds → Rp K G (.ref a) (.tup ds)
  | dk {a : Addr} {ks : List Key} {xs : List V} {ds : List D} : G a = some (.dK (ks.zip xs)) → ks.length = xs.length → RpA K G xs ds → Rp K G (.ref a) (.dk ks ds)
  | dt {a : Addr} {ks : List (List Key)} {xs : List V} {ds : List D} : G a = some (.dT (ks.zip xs)) → ks.length = xs.length → RpA K G xs ds → Rp K G (.ref a) (.dt ks ds)
  | ins {a C dx : Addr} {ns : List Str} {xs : List V} {ds : List D} : G a = some (.ins C dx (ns.zip xs)) → ns.length = xs.length → RpA K G xs ds → Rp K G (.ref a) (.ins C ns ds)
inductive RpA (K : PySem.W.Frag) (G : Hp) : List V → List D → Prop
  | nil : RpA K G [] []
  | cons {v : V} {vs : List V} {d : D} {ds : List D} : Rp K G v d → RpA K G vs ds → RpA K G (v :: vs) (d :: ds)
end

/-- all that is tracked stays -/
abbrev Ex (H H' : Hp) : Prop := ∀ a o, H a = some o → H' a = some o
theorem Ex.rf (H : Hp) : Ex H H := fun _ _ h => h
theorem Ex.tr {H H1 H2 : Hp} (a : Ex H H1) (b : Ex H1 H2) : Ex H H2 := fun x o h => b x o (a x o h)
theorem Ex.new {H : Hp} {p : Addr} {o : HO} (h : H p = none) : Ex H (upd H p o) := fun a u e => by
  rw [upd_ne (ne_of_none e h)]
  exact e
theorem Ex.free {H H' : Hp} {p : Addr} (e : Ex H H') (h : H' p = none) : H p = none := by
  cases h1 : H p with
  | none => rfl
  | some o => rw [e p o h1] at h; cases h
theorem Ex.both {H H' : Hp} {p : Addr} {o : HO} (e : Ex H H') : Ex (upd H p o) (upd H' p o) := fun a u h => by
  by_cases ha : a = p
  · subst ha; rw [upd_same] at h ⊢; exact h
  · rw [upd_ne ha] at h ⊢; exact e a u h
theorem Ex.ofSame {H H' : Hp} (e : Same H H') : Ex H H' := e
theorem sqT_ex {K : PySem.W.Frag} {H H' : Hp} {a : Addr} {xs : List V} (e : Ex H H') (h : SqT K H a xs) : SqT K H' a xs := by
  rcases h with (h | ⟨o, h⟩) | h
  · exact .inl (.inl (e _ _ h))
  · exact .inl (.inr ⟨o, e _ _ h⟩)
  · exact .inr h
theorem sqL_ex {K : PySem.W.Frag} {H H' : Hp} {a : Addr} {xs : List V} (e : Ex H H') (h : SqL K H a xs) : SqL K H' a xs := Same.seq e h

mutual
theorem Rp.mono {K : PySem.W.Frag} {G G' : Hp} (e : Ex G G') : ∀ (d : D) (v : V), Rp K G v d → Rp K G' v d
  | .non, _, h => by cases h; exact .non
  | .bl b, _, h => by cases h; exact .bl b
  | .int b, _, h => by cases h; exact .int b
  | .str b, _, h => by cases h; exact .str b
  | .ty b, _, h => by cases h; exact .ty b
  | .xr b, _, h => by cases h; exact .xr b
  | .lst l, _, h => by cases h with | lst a b => exact .lst (e _ _ a) (RpA.mono e l _ b)
  | .fls l, _, h => by cases h with | fls a b => exact .fls (sqL_ex e a) (RpA.mono e l _ b)
  | .tup l, _, h => by cases h with | tup a b => exact .tup (sqT_ex e a) (RpA.mono e l _ b)
  | .dk _ l, _, h => by cases h with | dk a b c => exact .dk (e _ _ a) b (RpA.mono e l _ c)
  | .dt _ l, _, h => by cases h with | dt a b c => exact .dt (e _ _ a) b (RpA.mono e l _ c)
  | .ins _ _ l, _, h => by cases h with | ins a b c => exact .ins (e _ _ a) b (RpA.mono e l _ c)
theorem RpA.mono {K : PySem.W.Frag} {G G' : Hp} (e : Ex G G') : ∀ (ds : List D) (vs : List V), RpA K G vs ds → RpA K G' vs ds
  | [], _, h => by cases h; exact .nil
  | d :: ds, _, h => by cases h with | cons a b => exact .cons (Rp.mono e d _ a) (RpA.mono e ds _ b)
end
theorem Rp.up {K : PySem.W.Frag} {G G' : Hp} {v : V} {d : D} (h : Rp K G v d) (e : Ex G G') : Rp K G' v d := Rp.mono e d v h
theorem RpA.up {K : PySem.W.Frag} {G G' : Hp} {vs : List V} {ds : List D} (h : RpA K G vs ds) (e : Ex G G') : RpA K G' vs ds := RpA.mono e ds vs h
def D.flat : D → Bool
  | .non | .bl _ | .int _ | .str _ | .ty _ | .xr _ => true
  | _ => false
theorem Rp.any {K : PySem.W.Frag} {G G' : Hp} {v : V} {d : D} (h : Rp K G v d) (f : d.flat = true) : Rp K G' v d := by
  cases h <;> first | (cases f; done) | constructor
theorem RpA.len {K : PySem.W.Frag} {G : Hp} : ∀ {vs : List V} {ds : List D}, RpA K G vs ds → vs.length = ds.length
  | _, _, .nil => rfl
  | _, _, .cons _ t => by rw [List.length_cons, List.length_cons, RpA.len t]
theorem RpA.get {K : PySem.W.Frag} {G : Hp} : ∀ {vs : List V} {ds : List D} {i : Nat} {d : D}, RpA K G vs ds → ds[i]? = some d → ∃ v, vs[i]? = some v ∧ Rp K G v d
  | _, _, _, _, .nil, h => by simp at h
  | _, _, 0, _, .cons r _, h => by simp at h; subst h; exact ⟨_, rfl, r⟩
  | _, _, i + 1, _, .cons _ t, h => by
    obtain ⟨v, a, b⟩ := RpA.get (i := i) t (by simpa using h)
    exact ⟨v, by simpa using a, b⟩
theorem RpA.got {K : PySem.W.Frag} {G : Hp} : ∀ {vs : List V} {ds : List D} {i : Nat} {v : V}, RpA K G vs ds → vs[i]? = some v → ∃ d, ds[i]? = some d ∧ Rp K G v d
  | _, _, _, _, .nil, h => by simp at h
  | _, _, 0, _, .cons r _, h => by simp at h; subst h; exact ⟨_, rfl, r⟩
  | _, _, i + 1, _, .cons _ t, h => by
    obtain ⟨v, a, b⟩ := RpA.got (i := i) t (by simpa using h)
    exact ⟨v, by simpa using a, b⟩
theorem RpA.app {K : PySem.W.Frag} {G : Hp} : ∀ {vs us : List V} {ds es : List D}, RpA K G vs ds → RpA K G us es → RpA K G (vs ++ us) (ds ++ es)
  | _, _, _, _, .nil, h => h
  | _, _, _, _, .cons r t, h => .cons r (RpA.app t h)
theorem RpA.set {K : PySem.W.Frag} {G : Hp} {v : V} {d : D} (r : Rp K G v d) : ∀ {vs : List V} {ds : List D} (i : Nat), RpA K G vs ds → RpA K G (vs.set i v) (ds.set i d)
  | _, _, _, .nil => .nil
  | _, _, 0, .cons _ t => .cons r t
  | _, _, i + 1, .cons q t => .cons q (RpA.set r i t)
theorem RpA.take {K : PySem.W.Frag} {G : Hp} : ∀ {vs : List V} {ds : List D} (n : Nat), RpA K G vs ds → RpA K G (vs.take n) (ds.take n)
  | _, _, 0, _ => .nil
  | _, _, _ + 1, .nil => .nil
  | _, _, n + 1, .cons r t => .cons r (RpA.take n t)
theorem RpA.drop {K : PySem.W.Frag} {G : Hp} : ∀ {vs : List V} {ds : List D} (n : Nat), RpA K G vs ds → RpA K G (vs.drop n) (ds.drop n)
  | _, _, 0, r => r
  | _, _, _ + 1, .nil => .nil
  | _, _, n + 1, .cons _ t => RpA.drop n t
theorem RpA.ints {K : PySem.W.Frag} {G : Hp} : ∀ (ns : List Int), RpA K G (ns.map V.int) (ns.map D.int)
  | [] => .nil
  | n :: r => .cons (.int n) (RpA.ints r)
theorem RpA.ofInts {K : PySem.W.Frag} {G : Hp} : ∀ {ns : List Int} {vs : List V}, RpA K G vs (ns.map D.int) → vs = ns.map V.int
  | [], _, h => by cases h; rfl
  | n :: r, _, h => by
    cases h with
    | cons a b => cases a; rw [RpA.ofInts b]; rfl
theorem RpA.ofBls {K : PySem.W.Frag} {G : Hp} : ∀ {ns : List Bool} {vs : List V}, RpA K G vs (ns.map D.bl) → vs = ns.map V.bl
  | [], _, h => by cases h; rfl
  | n :: r, _, h => by
    cases h with
    | cons a b => cases a; rw [RpA.ofBls b]; rfl
theorem RpA.ofStrs {K : PySem.W.Frag} {G : Hp} : ∀ {ns : List Str} {vs : List V}, RpA K G vs (ns.map D.str) → vs = ns.map V.str
  | [], _, h => by cases h; rfl
  | n :: r, _, h => by
    cases h with
    | cons a b => cases a; rw [RpA.ofStrs b]; rfl

/-! ### the slots: what is known of a name -/
inductive Cell where
  | un | fz (d : D) | mu (ds : List D)
def CellOk (K : PySem.W.Frag) (F G H : Hp) (o : Option V) : Cell → Prop
  | .un => True
  | .fz d => ∃ v, o = some v ∧ Rp K G v d
  | .mu ds => ∃ p xs, o = some (.ref p) ∧ F p = none ∧ G p = none ∧ H p = some (.lst xs) ∧ RpA K G xs ds
def Cell.own : Cell → Bool
  | .mu _ => true
  | _ => false
structure At (K : PySem.W.Frag) (F G0 : Hp) (ρ : List Cell) (G : Hp) (σ : L2.St) (H : Hp) : Prop where
  fh : Ex F H
  g0 : Ex G0 G
  gh : Ex G H
  nw : ∀ p, F p ≠ none → G0 p = none → G p = none
  len : σ.length = ρ.length
  cell : ∀ (i : Nat) (o : Option V) (c : Cell), σ[i]? = some o → ρ[i]? = some c → CellOk K F G H o c
  dist : ∀ (i j : Nat) (p : Addr) (c d : Cell), i ≠ j → ρ[i]? = some c → ρ[j]? = some d → c.own = true → d.own = true → σ[i]? = some (some (.ref p)) → σ[j]? = some (some (.ref p)) → False
section
variable {K : PySem.W.Frag} {F G0 G G' H H' : Hp} {ρ : List Cell} {σ : L2.St}
/-- the heap grows, the frozen part stays -/
theorem At.grow (a : At K F G0 ρ G σ H) (e : Ex H H') : At K F G0 ρ G σ H' where
  fh := a.fh.tr e
  g0 := a.g0
  gh := a.gh.tr e
  nw := a.nw
  len := a.len
  cell := fun i o c h1 h2 => by
    have q := a.cell i o c h1 h2
    cases c with
    | un => trivial
    | fz d => exact q
    | mu ds =>
      obtain ⟨p, xs, q1, q2, q3, q4, q5⟩ := q
      exact ⟨p, xs, q1, q2, q3, e _ _ q4, q5⟩
  dist := a.dist
/-- the heap grows, the frozen part with it -/
theorem At.both (a : At K F G0 ρ G σ H) (e : Ex H H') (g : Ex G G') (gh : Ex G' H') (nw : ∀ p, H p ≠ none → G p = none → G' p = none) : At K F G0 ρ G' σ H' where
  fh := a.fh.tr e
  g0 := a.g0.tr g
  gh := gh
  nw := fun p h1 h2 => by
    have h3 := a.nw p h1 h2
    refine nw p (fun z => ?_) h3
    exact h1 (a.fh.free z)
  len := a.len
  cell := fun i o c h1 h2 => by
    have q := a.cell i o c h1 h2
    cases c with
    | un => trivial
    | fz d =>
      obtain ⟨v, q1, q2⟩ := q
      exact ⟨v, q1, q2.up g⟩
    | mu ds =>
      obtain ⟨p, xs, q1, q2, q3, q4, q5⟩ := q
      exact ⟨p, xs, q1, q2, nw p (by rw [q4]; intro z; cases z) q3, e _ _ q4, q5.up g⟩
  dist := a.dist
/-- a new object, frozen -/
theorem At.new {p : Addr} {o : HO} (a : At K F G0 ρ G σ H) (h : H p = none) : At K F G0 ρ (upd G p o) σ (upd H p o) :=
  a.both (Ex.new h) (Ex.new (a.gh.free h)) (Ex.both a.gh) fun q h1 h2 => by
    have ne : q ≠ p := fun z => h1 (by rw [z]; exact h)
    rw [upd_ne ne]
    exact h2
theorem At.fz {i : Nat} {d : D} (a : At K F G0 ρ G σ H) (h : ρ[i]? = some (.fz d)) : ∃ v, σ[i]? = some (some v) ∧ Rp K G v d := by
  have hi : i < σ.length := by rw [a.len]; exact (List.getElem?_eq_some_iff.mp h).1
  obtain ⟨v, q1, q2⟩ := a.cell i σ[i] (.fz d) (List.getElem?_eq_getElem hi) h
  exact ⟨v, by rw [List.getElem?_eq_getElem hi, q1], q2⟩
theorem At.mu {i : Nat} {ds : List D} (a : At K F G0 ρ G σ H) (h : ρ[i]? = some (.mu ds)) : ∃ p xs, σ[i]? = some (some (.ref p)) ∧ F p = none ∧ G p = none ∧ H p = some (.lst xs) ∧ RpA K G xs ds := by
  have hi : i < σ.length := by rw [a.len]; exact (List.getElem?_eq_some_iff.mp h).1
  obtain ⟨p, xs, q1, q⟩ := a.cell i σ[i] (.mu ds) (List.getElem?_eq_getElem hi) h
  exact ⟨p, xs, by rw [List.getElem?_eq_getElem hi, q1], q⟩
/-- a slot is stored: frozen data -/
theorem At.setF {i : Nat} {v : V} {d : D} (a : At K F G0 ρ G σ H) (r : Rp K G v d) : At K F G0 (ρ.set i (.fz d)) G (σ.set i (some v)) H where
  fh := a.fh
  g0 := a.g0
  gh := a.gh
  nw := a.nw
  len := by simp [a.len]
  cell := fun j o c h1 h2 => by
    by_cases hj : i = j
    · subst hj
      have hi : i < σ.length := by
        have := (List.getElem?_eq_some_iff.mp h1).1
        simpa using this
      rw [List.getElem?_set_self hi] at h1
      rw [List.getElem?_set_self (by rw [← a.len]; exact hi)] at h2
      cases h1; cases h2
      exact ⟨v, rfl, r⟩
    · rw [List.getElem?_set_ne hj] at h1 h2
      exact a.cell j o c h1 h2
  dist := fun j k p c d' hjk h1 h2 o1 o2 e1 e2 => by
    have nj : i ≠ j := fun z => by
      subst z
      have hi : i < ρ.length := by
        have := (List.getElem?_eq_some_iff.mp h1).1
        simpa using this
      rw [List.getElem?_set_self hi] at h1
      cases h1; cases o1
    have nk : i ≠ k := fun z => by
      subst z
      have hi : i < ρ.length := by
        have := (List.getElem?_eq_some_iff.mp h2).1
        simpa using this
      rw [List.getElem?_set_self hi] at h2
      cases h2; cases o2
    rw [List.getElem?_set_ne nj] at h1 e1
    rw [List.getElem?_set_ne nk] at h2 e2
    exact a.dist j k p c d' hjk h1 h2 o1 o2 e1 e2
/-- a slot is stored: a list of its own -/
theorem At.setM {i : Nat} {p : Addr} {xs : List V} {ds : List D} (a : At K F G0 ρ G σ H) (f : F p = none) (g : G p = none) (h : H p = some (.lst xs)) (r : RpA K G xs ds)
    (nd : ∀ j c, j ≠ i → ρ[j]? = some c → c.own = true → σ[j]? ≠ some (some (.ref p))) : At K F G0 (ρ.set i (.mu ds)) G (σ.set i (some (.ref p))) H where
  fh := a.fh
  g0 := a.g0
  gh := a.gh
  nw := a.nw
  len := by simp [a.len]
  cell := fun j o c h1 h2 => by
    by_cases hj : i = j
    · subst hj
      have hi : i < σ.length := by
        have := (List.getElem?_eq_some_iff.mp h1).1
        simpa using this
      rw [List.getElem?_set_self hi] at h1
      rw [List.getElem?_set_self (by rw [← a.len]; exact hi)] at h2
      cases h1; cases h2
      exact ⟨p, xs, rfl, f, g, h, r⟩
    · rw [List.getElem?_set_ne hj] at h1 h2
      exact a.cell j o c h1 h2
  dist := fun j k q c d' hjk h1 h2 o1 o2 e1 e2 => by
    by_cases nj : i = j
    · subst nj
      have hi : i < ρ.length := by
        have := (List.getElem?_eq_some_iff.mp h1).1
        simpa using this
      rw [List.getElem?_set_self (by rw [a.len]; exact hi)] at e1
      cases e1
      rw [List.getElem?_set_ne hjk] at h2 e2
      exact nd k d' (Ne.symm hjk) h2 o2 e2
    · by_cases nk : i = k
      · subst nk
        have hi : i < ρ.length := by
          have := (List.getElem?_eq_some_iff.mp h2).1
          simpa using this
        rw [List.getElem?_set_self (by rw [a.len]; exact hi)] at e2
        cases e2
        rw [List.getElem?_set_ne nj] at h1 e1
        exact nd j c (Ne.symm nj) h1 o1 e1
      · rw [List.getElem?_set_ne nj] at h1 e1
        rw [List.getElem?_set_ne nk] at h2 e2
        exact a.dist j k q c d' hjk h1 h2 o1 o2 e1 e2
/-- an own list is written -/
theorem At.write {i : Nat} {p : Addr} {xs : List V} {ds ds0 : List D} (a : At K F G0 ρ G σ H) (hi : ρ[i]? = some (.mu ds0)) (hs : σ[i]? = some (some (.ref p))) (r : RpA K G xs ds) :
    At K F G0 (ρ.set i (.mu ds)) G σ (upd H p (.lst xs)) := by
  obtain ⟨p', xs0, s1, f, g, h, r0⟩ := a.mu hi
  rw [hs] at s1
  cases s1
  have nF : ∀ q o, F q = some o → q ≠ p := fun q o e z => by rw [z, f] at e; cases e
  have nG : ∀ q o, G q = some o → q ≠ p := fun q o e z => by rw [z, g] at e; cases e
  have b : At K F G0 (ρ.set i .un) G σ (upd H p (.lst xs)) := {
    fh := fun q o e => by rw [upd_ne (nF q o e)]; exact a.fh q o e
    g0 := a.g0
    gh := fun q o e => by rw [upd_ne (nG q o e)]; exact a.gh q o e
    nw := a.nw
    len := by simp [a.len]
    cell := fun j o c h1 h2 => by
      by_cases hj : i = j
      · subst hj
        have hl : i < ρ.length := (List.getElem?_eq_some_iff.mp hi).1
        rw [List.getElem?_set_self hl] at h2
        cases h2
        trivial
      · rw [List.getElem?_set_ne hj] at h2
        have q := a.cell j o c h1 h2
        cases c with
        | un => trivial
        | fz d => exact q
        | mu es =>
          obtain ⟨p2, ys, q1, q2, q3, q4, q5⟩ := q
          have ne : p2 ≠ p := fun z => by
            subst z
            exact a.dist i j _ _ _ hj hi h2 rfl rfl hs (by rw [h1, q1])
          exact ⟨p2, ys, q1, q2, q3, by rw [upd_ne ne]; exact q4, q5⟩
    dist := fun j k q c d' hjk h1 h2 o1 o2 e1 e2 => by
      have nj : i ≠ j := fun z => by
        subst z
        rw [List.getElem?_set_self (List.getElem?_eq_some_iff.mp hi).1] at h1
        cases h1; cases o1
      have nk : i ≠ k := fun z => by
        subst z
        rw [List.getElem?_set_self (List.getElem?_eq_some_iff.mp hi).1] at h2
        cases h2; cases o2
      rw [List.getElem?_set_ne nj] at h1
      rw [List.getElem?_set_ne nk] at h2
      exact a.dist j k q c d' hjk h1 h2 o1 o2 e1 e2 }
  have c := b.setM (i := i) (p := p) (xs := xs) (ds := ds) f g upd_same r fun j c hj h1 o1 e1 => by
    rw [List.getElem?_set_ne (Ne.symm hj)] at h1
    exact a.dist j i p c _ hj h1 hi o1 rfl e1 hs
  rw [List.set_set] at c
  have e : σ.set i (some (.ref p)) = σ := by
    have hl : i < σ.length := (List.getElem?_eq_some_iff.mp hs).1
    have hv : σ[i] = some (.ref p) := by rw [List.getElem?_eq_getElem hl] at hs; exact Option.some.inj hs
    rw [← hv, List.set_getElem_self]
  rw [e] at c
  exact c
/-- an own list is frozen -/
theorem At.freeze {i : Nat} {ds : List D} (a : At K F G0 ρ G σ H) (hi : ρ[i]? = some (.mu ds)) : ∃ G', Ex G G' ∧ At K F G0 (ρ.set i (.fz (.lst ds))) G' σ H := by
  obtain ⟨p, xs, s1, f, g, h, r0⟩ := a.mu hi
  have e : Ex G (upd G p (.lst xs)) := Ex.new g
  refine ⟨upd G p (.lst xs), e, ?_⟩
  have gh : Ex (upd G p (.lst xs)) H := fun q o z => by
    by_cases hq : q = p
    · subst hq; rw [upd_same] at z; cases z; exact h
    · rw [upd_ne hq] at z; exact a.gh q o z
  have nw : ∀ q, F q ≠ none → G0 q = none → upd G p (.lst xs) q = none := fun q h1 h2 => by
    have ne : q ≠ p := fun z => h1 (by rw [z]; exact f)
    rw [upd_ne ne]
    exact a.nw q h1 h2
  have hl : i < ρ.length := (List.getElem?_eq_some_iff.mp hi).1
  have hls : i < σ.length := by rw [a.len]; exact hl
  refine ⟨a.fh, a.g0.tr e, gh, nw, by simp [a.len], fun j o c h1 h2 => ?_, fun j k q c d' hjk h1 h2 o1 o2 e1 e2 => ?_⟩
  · by_cases hj : i = j
    · subst hj
      rw [List.getElem?_set_self hl] at h2
      cases h2
      rw [s1] at h1
      cases h1
      exact ⟨_, rfl, .lst upd_same (r0.up e)⟩
    · rw [List.getElem?_set_ne hj] at h2
      have q := a.cell j o c h1 h2
      cases c with
      | un => trivial
      | fz d =>
        obtain ⟨v, q1, q2⟩ := q
        exact ⟨v, q1, q2.up e⟩
      | mu es =>
        obtain ⟨p2, ys, q1, q2, q3, q4, q5⟩ := q
        have ne : p2 ≠ p := fun z => by
          subst z
          exact a.dist i j _ _ _ hj hi h2 rfl rfl s1 (by rw [h1, q1])
        exact ⟨p2, ys, q1, q2, by rw [upd_ne ne]; exact q3, q4, q5.up e⟩
  · have nj : i ≠ j := fun z => by
      subst z
      rw [List.getElem?_set_self hl] at h1
      cases h1; cases o1
    have nk : i ≠ k := fun z => by
      subst z
      rw [List.getElem?_set_self hl] at h2
      cases h2; cases o2
    rw [List.getElem?_set_ne nj] at h1
    rw [List.getElem?_set_ne nk] at h2
    exact a.dist j k q c d' hjk h1 h2 o1 o2 e1 e2
end
end DL

namespace DL
open PySem PySem.Spec PyProof.Rows L2

inductive Res where
  | ok (d : D) | nl (ds : List D) | er (c : Str)
def exA (mg : Str → Option Value) (c : Str) : Addr := match mg c with
  | some (.ref a) => a
  | _ => 0
section
variable (K : PySem.W.Frag) (mg : Str → Option Value)
def EndE (W : WX) (F G0 : Hp) (ρ : List Cell) (G : Hp) (σ : L2.St) (H : Hp) (Q : VK) : Res → Prop
  | .ok d => ∀ v G' H', Ex G G' → Ex H H' → At K F G0 ρ G' σ H' → Rp K G' v d → Q v H'
  | .nl ds => ∀ p xs G' H', Ex G G' → Ex H H' → At K F G0 ρ G' σ H' → H p = none → G' p = none → H' p = some (.lst xs) → RpA K G' xs ds → Q (.ref p) H'
  | .er c => ∀ G' H', Ex G G' → Ex H H' → At K F G0 ρ G' σ H' → W (.ref (exA mg c)) none σ H'
def cE (ρ : List Cell) (r : Res) (W : WX) : TE := fun σ H Q => ∃ F G0 G, At K F G0 ρ G σ H ∧ EndE K mg W F G0 ρ G σ H Q r
def cW (ρ : List Cell) (d : D) : TE := fun σ H Q => ∃ F G0 G, At K F G0 ρ G σ H ∧ ∀ v G' H', Ex G G' → Ex H H' → At K F G0 ρ G' σ H' → Rp K H' v d → Q v H'
def cT (ρ : List Cell) (b : Bool) : TT := fun σ H Q => ∃ F G0 G, At K F G0 ρ G σ H ∧ ∀ G' H', Ex G G' → Ex H H' → At K F G0 ρ G' σ H' → Q b H'
def cA (ρ : List Cell) (ds : List D) : TA := fun σ H Q => ∃ F G0 G, At K F G0 ρ G σ H ∧ ∀ vs G' H', Ex G G' → Ex H H' → At K F G0 ρ G' σ H' → RpA K G' vs ds → Q vs H'
def cB (ρ : List Cell) (ds : List D) : TA := fun σ H Q => ∃ F G0 G, At K F G0 ρ G σ H ∧ ∀ vs G' H', Ex G G' → Ex H H' → At K F G0 ρ G' σ H' → RpA K H' vs ds → Q vs H'
end
abbrev JE (X : Cx) (W : WX) (ρ : List Cell) (e : Expr) (r : Res) : Prop := PE X e (cE X.K X.mg ρ r W)
abbrev JW (X : Cx) (ρ : List Cell) (e : Expr) (d : D) : Prop := PE X e (cW X.K ρ d)
abbrev JT (X : Cx) (ρ : List Cell) (e : Expr) (b : Bool) : Prop := PT X e (cT X.K ρ b)
abbrev JP (X : Cx) (ρ : List Cell) (e : Expr) (b : Bool) : Prop := PW X e (cT X.K ρ b)
abbrev JA (X : Cx) (ρ : List Cell) (es : List Expr) (ds : List D) : Prop := PA X es (cA X.K ρ ds)
abbrev JB (X : Cx) (ρ : List Cell) (es : List Expr) (ds : List D) : Prop := PA X es (cB X.K ρ ds)

section
variable {X : Cx} {W : WX} {ρ : List Cell}
theorem PE.imp {e : Expr} {t t' : TE} (h : PE X e t) (w : ∀ σ H Q, t' σ H Q → t σ H Q) : PE X e t' := ⟨fun pins s σ H Q I q => h.run pins s σ H Q I (w _ _ _ q)⟩
theorem PT.imp {e : Expr} {t t' : TT} (h : PT X e t) (w : ∀ σ H Q, t' σ H Q → t σ H Q) : PT X e t' := ⟨fun pins s σ H Q I q => h.run pins s σ H Q I (w _ _ _ q)⟩
theorem PW.imp {e : Expr} {t t' : TT} (h : PW X e t) (w : ∀ σ H Q, t' σ H Q → t σ H Q) : PW X e t' := ⟨fun wh pins s σ H Q I q => h.run wh pins s σ H Q I (w _ _ _ q)⟩
theorem PA.imp {e : List Expr} {t t' : TA} (h : PA X e t) (w : ∀ σ H Q, t' σ H Q → t σ H Q) : PA X e t' := ⟨fun p pins s σ H Q I q => h.run p pins s σ H Q I (w _ _ _ q)⟩

/-! ### weakening -/
theorem jw_of {e : Expr} {d : D} (h : JE X W ρ e (.ok d)) : JW X ρ e d := PE.imp h fun σ H Q ⟨F, G0, G, a, k⟩ => ⟨F, G0, G, a, fun v G' H' g hh a' r => k v G' H' g hh a' (r.up a'.gh)⟩
theorem jw_nl {e : Expr} {ds : List D} (h : JE X W ρ e (.nl ds)) : JW X ρ e (.lst ds) := PE.imp h fun σ H Q ⟨F, G0, G, a, k⟩ => ⟨F, G0, G, a, fun p xs G' H' g hh a' n1 n2 e r => k _ G' H' g hh a' (.lst e (r.up a'.gh))⟩
theorem At.frz {K : PySem.W.Frag} {F G0 G G' H H' : Hp} {σ : L2.St} {p : Addr} {o : HO} (a0 : At K F G0 ρ G σ H) (a : At K F G0 ρ G' σ H') (hp : H p = none) (h' : H' p = some o) (gp : G' p = none) : At K F G0 ρ (upd G' p o) σ H' := by
  refine ⟨a.fh, a.g0.tr (Ex.new gp), fun q u z => ?_, fun q h1 h2 => ?_, a.len, fun i u c h1 h2 => ?_, a.dist⟩
  · by_cases hq : q = p
    · subst hq; rw [upd_same] at z; cases z; exact h'
    · rw [upd_ne hq] at z; exact a.gh q u z
  · have ne : q ≠ p := fun z => h1 (by rw [z]; exact a0.fh.free hp)
    rw [upd_ne ne]
    exact a.nw q h1 h2
  · have q := a.cell i u c h1 h2
    have q0 := a0.cell i u c h1 h2
    cases c with
    | un => trivial
    | fz d =>
      obtain ⟨v, q1, q2⟩ := q
      exact ⟨v, q1, q2.up (Ex.new gp)⟩
    | mu es =>
      obtain ⟨p2, ys, q1, q2, q3, q4, q5⟩ := q
      obtain ⟨p3, zs, w1, w2, w3, w4, w5⟩ := q0
      rw [q1] at w1
      cases w1
      have ne : p2 ≠ p := fun z => by rw [z, hp] at w4; cases w4
      exact ⟨p2, ys, q1, q2, by rw [upd_ne ne]; exact q3, q4, q5.up (Ex.new gp)⟩
theorem je_fz {e : Expr} {ds : List D} (h : JE X W ρ e (.nl ds)) : JE X W ρ e (.ok (.lst ds)) := PE.imp h fun σ H Q ⟨F, G0, G, a, k⟩ => ⟨F, G0, G, a, fun p xs G' H' g hh a' n1 n2 e r => by
  exact k _ (upd G' p (.lst xs)) H' (g.tr (Ex.new n2)) hh (At.frz a a' n1 e n2) (.lst upd_same (r.up (Ex.new n2)))⟩

/-! ### names, constants -/
theorem je_var {i : Nat} {x : Str} {d : D} {pos : Pos} (h : ρ[i]? = some (.fz d)) (hN : X.N[i]? = some x) (hv : Vis X.env.scope x) (hd : (x == ("__debug__" : Str)) = false := by decide) (hcd : (x == ("__classdict__" : Str)) = false := by decide) : JE X W ρ (.Name x pos) (.ok d) :=
  PE.imp (pe_var hN hv hd hcd) fun σ H Q ⟨F, G0, G, a, k⟩ => by
    obtain ⟨v, h1, h2⟩ := a.fz h
    exact ⟨v, h1, k v G H (Ex.rf G) (Ex.rf H) a h2⟩
theorem jw_var {i : Nat} {x : Str} {ds : List D} {pos : Pos} (h : ρ[i]? = some (.mu ds)) (hN : X.N[i]? = some x) (hv : Vis X.env.scope x) (hd : (x == ("__debug__" : Str)) = false := by decide) (hcd : (x == ("__classdict__" : Str)) = false := by decide) : JW X ρ (.Name x pos) (.lst ds) :=
  PE.imp (pe_var hN hv hd hcd) fun σ H Q ⟨F, G0, G, a, k⟩ => by
    obtain ⟨p, xs, h1, h2, h3, h4, h5⟩ := a.mu h
    exact ⟨_, h1, k _ G H (Ex.rf G) (Ex.rf H) a (.lst h4 (h5.up a.gh))⟩
theorem je_c {e : Expr} {v : V} {d : D} (h : PE X e (tC v)) (r : ∀ G, Rp X.K G v d) : JE X W ρ e (.ok d) := PE.imp h fun σ H Q ⟨F, G0, G, a, k⟩ => k v G H (Ex.rf G) (Ex.rf H) a (r G)
theorem je_int {i j pos} : JE X W ρ (.Constant (.int i) j pos) (.ok (.int i)) := je_c pe_int fun _ => .int i
theorem je_bl {b j pos} : JE X W ρ (.Constant (.bool b) j pos) (.ok (.bl b)) := je_c pe_bl fun _ => .bl b
theorem je_non {j pos} : JE X W ρ (.Constant .none j pos) (.ok .non) := je_c pe_non fun _ => .non
theorem je_str {x j pos} : JE X W ρ (.Constant (.str x) j pos) (.ok (.str x)) := je_c pe_str fun _ => .str x
theorem je_glob {x : Str} {v : V} {u : Value} {d : D} {pos : Pos} (hg : Gl X x) (hm : X.mg x = some u) (r : RelV v u) (rd : ∀ G, Rp X.K G v d) (hd : (x == ("__debug__" : Str)) = false := by decide) : JE X W ρ (.Name x pos) (.ok d) := je_c (pe_glob hg hm r hd) rd
theorem je_bltn {x : Str} {n : String} {pos : Pos} (hg : Gl X x) (hm : X.mg x = none) (hv : bootBuiltins x = some (.type n)) (hn : x ≠ "__name__" := by decide) (hd : (x == ("__debug__" : Str)) = false := by decide) : JE X W ρ (.Name x pos) (.ok (.ty n)) := je_c (pe_bltn (v := .ty n) hg hm hv rfl hn hd) fun _ => .ty n

/-! ### operators whose answer is flat -/
def OpW (X : Cx) (f : Value → Value → Sem Value) (x y d : D) : Prop :=
  ∃ R : R2, OpR X f R ∧ d.flat = true ∧ ∀ H v u (Q : VK), Rp X.K H v x → Rp X.K H u y → (∀ v', Rp X.K H v' d → Q v' H) → R v u H Q
theorem je_bin {a b : Expr} {x y d : D} {op : Operator} {pos : Pos} (ha : JW X ρ a x) (hb : JW X ρ b y) (o : OpW X (binaryOp op) x y d) : JE X W ρ (.BinOp a op b pos) (.ok d) := by
  obtain ⟨R, hR, fl, h⟩ := o
  refine PE.imp (pe_op hR ha hb) fun σ H Q ⟨F, G0, G, a0, k⟩ => ⟨F, G0, G, a0, fun v G1 H1 g1 h1 a1 r1 => ⟨F, G0, G1, a1, fun u G2 H2 g2 h2 a2 r2 => ?_⟩⟩
  exact h H2 v u Q (r1.up h2) r2 fun v' r' => k v' G2 H2 (g1.tr g2) (h1.tr h2) a2 (r'.any fl)
theorem je_cmp {a b : Expr} {x y d : D} {op : CmpOp} {pos : Pos} (ha : JW X ρ a x) (hb : JW X ρ b y) (o : OpW X (compareOp op) x y d) (hm : behindInMarks op b = false) : JE X W ρ (.Compare a [op] [b] pos) (.ok d) := by
  obtain ⟨R, hR, fl, h⟩ := o
  refine PE.imp (pe_cmpR hR ha hb hm) fun σ H Q ⟨F, G0, G, a0, k⟩ => ⟨F, G0, G, a0, fun v G1 H1 g1 h1 a1 r1 => ⟨F, G0, G1, a1, fun u G2 H2 g2 h2 a2 r2 => ?_⟩⟩
  exact h H2 v u Q (r1.up h2) r2 fun v' r' => k v' G2 H2 (g1.tr g2) (h1.tr h2) a2 (r'.any fl)
theorem jt_cmp {a b : Expr} {x y : D} {c : Bool} {op : CmpOp} {pos : Pos} (ha : JW X ρ a x) (hb : JW X ρ b y) (o : OpW X (compareOp op) x y (.bl c)) (hm : behindInMarks op b = false) : JT X ρ (.Compare a [op] [b] pos) c := by
  obtain ⟨R, hR, fl, h⟩ := o
  refine PT.imp (pt_cmpR hR ha hb hm) fun σ H Q ⟨F, G0, G, a0, k⟩ => ⟨F, G0, G, a0, fun v G1 H1 g1 h1 a1 r1 => ⟨F, G0, G1, a1, fun u G2 H2 g2 h2 a2 r2 => ?_⟩⟩
  refine h H2 v u _ (r1.up h2) r2 fun v' r' => ?_
  cases r'
  exact ⟨c, rfl, k G2 H2 (g1.tr g2) (h1.tr h2) a2⟩
/-- a op b op' c, two comparisons -/
theorem je_chain {a b c : Expr} {x y z : D} {k1 k2 : Bool} {op op' : CmpOp} {pos : Pos} (ha : JW X ρ a x) (hb : JW X ρ b y) (hc : JW X ρ c z) (o : OpW X (compareOp op) x y (.bl k1)) (o' : OpW X (compareOp op') y z (.bl k2))
    (hm : lastMarks [op, op'] [b, c] = false) : JE X W ρ (.Compare a [op, op'] [b, c] pos) (.ok (.bl (k1 && k2))) := by
  obtain ⟨R, hR, fl, h⟩ := o
  obtain ⟨R', hR', fl', h'⟩ := o'
  refine PE.imp (pe_chain hR hR' ha hb hc hm) fun σ H Q ⟨F, G0, G, a0, k⟩ => ⟨F, G0, G, a0, fun v G1 H1 g1 h1 a1 r1 => ⟨F, G0, G1, a1, fun u G2 H2 g2 h2 a2 r2 => ?_⟩⟩
  refine h H2 v u _ (r1.up h2) r2 fun v' r' => ?_
  cases r'
  refine ⟨k1, rfl, ?_⟩
  cases k1 with
  | true =>
    rw [if_pos rfl]
    refine ⟨F, G0, G2, a2, fun w G3 H3 g3 h3 a3 r3 => ?_⟩
    refine h' H3 u w _ (r2.up h3) r3 fun v' r' => ?_
    cases r'
    exact k _ G3 H3 ((g1.tr g2).tr g3) ((h1.tr h2).tr h3) a3 (.bl _)
  | false =>
    rw [if_neg (by decide)]
    exact k _ G2 H2 (g1.tr g2) (h1.tr h2) a2 (.bl _)
theorem jt_chain {a b c : Expr} {x y z : D} {k1 k2 : Bool} {op op' : CmpOp} {pos : Pos} (ha : JW X ρ a x) (hb : JW X ρ b y) (hc : JW X ρ c z) (o : OpW X (compareOp op) x y (.bl k1)) (o' : OpW X (compareOp op') y z (.bl k2))
    (hm : lastMarks [op, op'] [b, c] = false) : JT X ρ (.Compare a [op, op'] [b, c] pos) (k1 && k2) := by
  obtain ⟨R, hR, fl, h⟩ := o
  obtain ⟨R', hR', fl', h'⟩ := o'
  refine PT.imp (pt_chain hR hR' ha hb hc hm) fun σ H Q ⟨F, G0, G, a0, k⟩ => ⟨F, G0, G, a0, fun v G1 H1 g1 h1 a1 r1 => ⟨F, G0, G1, a1, fun u G2 H2 g2 h2 a2 r2 => ?_⟩⟩
  refine h H2 v u _ (r1.up h2) r2 fun v' r' => ?_
  cases r'
  refine ⟨k1, rfl, ?_⟩
  cases k1 with
  | true =>
    rw [if_pos rfl]
    refine ⟨F, G0, G2, a2, fun w G3 H3 g3 h3 a3 r3 => ?_⟩
    refine h' H3 u w _ (r2.up h3) r3 fun v' r' => ?_
    cases r'
    exact ⟨_, rfl, k G3 H3 ((g1.tr g2).tr g3) ((h1.tr h2).tr h3) a3⟩
  | false =>
    rw [if_neg (by decide)]
    exact ⟨_, rfl, k G2 H2 (g1.tr g2) (h1.tr h2) a2⟩
def UnW (X : Cx) (f : Value → Sem Value) (x d : D) : Prop :=
  ∃ R : V → Hp → VK → Prop, UnR X f R ∧ d.flat = true ∧ ∀ H v (Q : VK), Rp X.K H v x → (∀ v', Rp X.K H v' d → Q v' H) → R v H Q
theorem je_un {a : Expr} {x d : D} {op : UnaryOp} {pos : Pos} (ha : JW X ρ a x) (o : UnW X (unaryOp op) x d) : JE X W ρ (.UnaryOp op a pos) (.ok d) := by
  obtain ⟨R, hR, fl, h⟩ := o
  refine PE.imp (pe_un hR ha) fun σ H Q ⟨F, G0, G, a0, k⟩ => ⟨F, G0, G, a0, fun v G1 H1 g1 h1 a1 r1 => ?_⟩
  exact h H1 v Q r1 fun v' r' => k v' G1 H1 g1 h1 a1 (r'.any fl)

/-! ### tests -/
theorem jt_val {e : Expr} {b : Bool} (h : JE X W ρ e (.ok (.bl b))) (he : ∀ whole, isTrue e X.env whole = (do let v ← whole; standAt e.pos; holding [v] (truthy v)) := by intro _; rfl) : JT X ρ e b :=
  PT.imp (pt_val h he) fun σ H Q ⟨F, G0, G, a0, k⟩ => ⟨F, G0, G, a0, fun v G1 H1 g1 h1 a1 r1 => by cases r1; exact ⟨b, rfl, k G1 H1 g1 h1 a1⟩⟩
theorem jt_not {a : Expr} {b : Bool} {pos : Pos} (h : JT X ρ a b) : JT X ρ (.UnaryOp .Not a pos) (!b) := PT.imp (pt_not h) fun σ H Q ⟨F, G0, G, a0, k⟩ => ⟨F, G0, G, a0, k⟩
theorem je_not {a : Expr} {b : Bool} {pos : Pos} (h : JE X W ρ a (.ok (.bl b))) : JE X W ρ (.UnaryOp .Not a pos) (.ok (.bl (!b))) := PE.imp (pe_not h) fun σ H Q ⟨F, G0, G, a0, k⟩ => ⟨F, G0, G, a0, fun v G1 H1 g1 h1 a1 r1 => by
  cases r1
  exact ⟨b, rfl, k _ G1 H1 g1 h1 a1 (.bl _)⟩⟩
def tF : TT := fun _ _ _ => False
theorem pw_never {e : Expr} : PW X e tF := ⟨fun _ _ _ _ _ _ _ h => h.elim⟩
def tFE : TE := fun _ _ _ => False
theorem pe_never {e : Expr} : PE X e tFE := ⟨fun _ _ _ _ _ _ h => h.elim⟩
theorem jp_and1 {a : Expr} {b : Bool} {pos : Pos} (h : JT X ρ a b) : JP X ρ (.BoolOp .And [a] pos) b := pw_and1 h
theorem jp_or1 {a : Expr} {b : Bool} {pos : Pos} (h : JT X ρ a b) : JP X ρ (.BoolOp .Or [a] pos) b := pw_or1 h
theorem jp_and {a b : Expr} {rest : List Expr} {c d : Bool} {pos : Pos} (h : JT X ρ a c) (hr : c = true → JP X ρ (.BoolOp .And (b :: rest) pos) d) : JP X ρ (.BoolOp .And (a :: b :: rest) pos) (c && d) := by
  cases c with
  | true => exact PW.imp (pw_and h (hr rfl)) fun σ H Q ⟨F, G0, G, a0, k⟩ => ⟨F, G0, G, a0, fun G1 H1 g1 h1 a1 => by
      exact iteT ⟨F, G0, G1, a1, fun G2 H2 g2 h2 a2 => k G2 H2 (g1.tr g2) (h1.tr h2) a2⟩⟩
  | false => exact PW.imp (pw_and h pw_never) fun σ H Q ⟨F, G0, G, a0, k⟩ => ⟨F, G0, G, a0, fun G1 H1 g1 h1 a1 => by
      exact iteF (k G1 H1 g1 h1 a1)⟩
theorem jp_or {a b : Expr} {rest : List Expr} {c d : Bool} {pos : Pos} (h : JT X ρ a c) (hr : c = false → JP X ρ (.BoolOp .Or (b :: rest) pos) d) : JP X ρ (.BoolOp .Or (a :: b :: rest) pos) (c || d) := by
  cases c with
  | false => exact PW.imp (pw_or h (hr rfl)) fun σ H Q ⟨F, G0, G, a0, k⟩ => ⟨F, G0, G, a0, fun G1 H1 g1 h1 a1 => by
      exact iteF ⟨F, G0, G1, a1, fun G2 H2 g2 h2 a2 => k G2 H2 (g1.tr g2) (h1.tr h2) a2⟩⟩
  | true => exact PW.imp (pw_or h pw_never) fun σ H Q ⟨F, G0, G, a0, k⟩ => ⟨F, G0, G, a0, fun G1 H1 g1 h1 a1 => by
      exact iteT (k G1 H1 g1 h1 a1)⟩
theorem jt_p {e : Expr} {b : Bool} (h : JP X ρ e b) : JT X ρ e b := PW.pt h
theorem je_one {op} {a : Expr} {r : Res} {pos : Pos} (h : JE X W ρ a r) : JE X W ρ (.BoolOp op [a] pos) r := pe_one h
theorem je_and {a b : Expr} {rest : List Expr} {c d : Bool} {pos : Pos} (h : JE X W ρ a (.ok (.bl c))) (hr : c = true → JE X W ρ (.BoolOp .And (b :: rest) pos) (.ok (.bl d))) : JE X W ρ (.BoolOp .And (a :: b :: rest) pos) (.ok (.bl (c && d))) := by
  cases c with
  | true => exact PE.imp (pe_and h (hr rfl)) fun σ H Q ⟨F, G0, G, a0, k⟩ => ⟨F, G0, G, a0, fun v G1 H1 g1 h1 a1 r1 => by
      cases r1
      refine ⟨true, rfl, ?_⟩
      rw [if_pos rfl]
      exact ⟨F, G0, G1, a1, fun v G2 H2 g2 h2 a2 r2 => k v G2 H2 (g1.tr g2) (h1.tr h2) a2 r2⟩⟩
  | false => exact PE.imp (pe_and h pe_never) fun σ H Q ⟨F, G0, G, a0, k⟩ => ⟨F, G0, G, a0, fun v G1 H1 g1 h1 a1 r1 => by
      cases r1
      refine ⟨false, rfl, ?_⟩
      rw [if_neg (by decide)]
      exact k _ G1 H1 g1 h1 a1 (.bl _)⟩
theorem je_or {a b : Expr} {rest : List Expr} {c d : Bool} {pos : Pos} (h : JE X W ρ a (.ok (.bl c))) (hr : c = false → JE X W ρ (.BoolOp .Or (b :: rest) pos) (.ok (.bl d))) : JE X W ρ (.BoolOp .Or (a :: b :: rest) pos) (.ok (.bl (c || d))) := by
  cases c with
  | false => exact PE.imp (pe_or h (hr rfl)) fun σ H Q ⟨F, G0, G, a0, k⟩ => ⟨F, G0, G, a0, fun v G1 H1 g1 h1 a1 r1 => by
      cases r1
      refine ⟨false, rfl, ?_⟩
      rw [if_neg (by decide)]
      exact ⟨F, G0, G1, a1, fun v G2 H2 g2 h2 a2 r2 => k v G2 H2 (g1.tr g2) (h1.tr h2) a2 r2⟩⟩
  | true => exact PE.imp (pe_or h pe_never) fun σ H Q ⟨F, G0, G, a0, k⟩ => ⟨F, G0, G, a0, fun v G1 H1 g1 h1 a1 r1 => by
      cases r1
      refine ⟨true, rfl, ?_⟩
      rw [if_pos rfl]
      exact k _ G1 H1 g1 h1 a1 (.bl _)⟩

/-! ### arguments, displays -/
theorem ja_nil : JA X ρ [] [] := PA.imp pa_nil fun σ H Q ⟨F, G0, G, a, k⟩ => k [] G H (Ex.rf G) (Ex.rf H) a .nil
theorem ja_cons {e : Expr} {es : List Expr} {d : D} {ds : List D} (h : JE X W ρ e (.ok d)) (hr : JA X ρ es ds) (hs : starEach (e :: es) X.env = (false, eval e X.env) :: starEach es X.env := by rfl) : JA X ρ (e :: es) (d :: ds) :=
  PA.imp (pa_cons h hr hs) fun σ H Q ⟨F, G0, G, a, k⟩ => ⟨F, G0, G, a, fun v G1 H1 g1 h1 a1 r1 => ⟨F, G0, G1, a1, fun vs G2 H2 g2 h2 a2 r2 => k (v :: vs) G2 H2 (g1.tr g2) (h1.tr h2) a2 (.cons (r1.up g2) r2)⟩⟩
theorem jb_nil : JB X ρ [] [] := PA.imp pa_nil fun σ H Q ⟨F, G0, G, a, k⟩ => k [] G H (Ex.rf G) (Ex.rf H) a .nil
theorem jb_cons {e : Expr} {es : List Expr} {d : D} {ds : List D} (h : JW X ρ e d) (hr : JB X ρ es ds) (hs : starEach (e :: es) X.env = (false, eval e X.env) :: starEach es X.env := by rfl) : JB X ρ (e :: es) (d :: ds) :=
  PA.imp (pa_cons h hr hs) fun σ H Q ⟨F, G0, G, a, k⟩ => ⟨F, G0, G, a, fun v G1 H1 g1 h1 a1 r1 => ⟨F, G0, G1, a1, fun vs G2 H2 g2 h2 a2 r2 => k (v :: vs) G2 H2 (g1.tr g2) (h1.tr h2) a2 (.cons (r1.up h2) r2)⟩⟩
theorem je_tup {es : List Expr} {ds : List D} {x1} {pos : Pos} (h : JA X ρ es ds) (hl : ds.length ≤ sizeLine := by exact Nat.le_of_ble_eq_true rfl) : JE X W ρ (.Tuple es x1 pos) (.ok (.tup ds)) :=
  PE.imp (pe_tup h) fun σ H Q ⟨F, G0, G, a, k⟩ => ⟨F, G0, G, a, fun vs G1 H1 g1 h1 a1 r1 => ⟨by rw [r1.len]; exact hl, fun p hp => by
    have n := a1.gh.free hp
    exact k (.ref p) (upd G1 p (.tup vs)) _ (g1.tr (Ex.new n)) (h1.tr (Ex.new hp)) (a1.new hp) (.tup (.inl (.inl upd_same)) (r1.up (Ex.new n)))⟩⟩
theorem je_lst {es : List Expr} {ds : List D} {pos : Pos} (h : JA X ρ es ds) (hl : ds.length ≤ sizeLine := by exact Nat.le_of_ble_eq_true rfl) : JE X W ρ (.List es pos) (.nl ds) :=
  PE.imp (pe_lst h) fun σ H Q ⟨F, G0, G, a, k⟩ => ⟨F, G0, G, a, fun vs G1 H1 g1 h1 a1 r1 => ⟨by rw [r1.len]; exact hl, fun p hp => by
    exact k p vs G1 _ g1 (h1.tr (Ex.new hp)) (a1.grow (Ex.new hp)) (h1.free hp) (a1.gh.free hp) upd_same r1⟩⟩

/-! ### subscripts -/
theorem RpA.atI {K : PySem.W.Frag} {G : Hp} {xs : List V} {ds : List D} {i : Int} {d : D} (r : RpA K G xs ds) (h : L2.atI ds i = some d) : ∃ v, L2.atI xs i = some v ∧ Rp K G v d := by
  unfold L2.atI at h ⊢
  rw [r.len]
  cases e : ixN ds.length i with
  | none => rw [e] at h; cases h
  | some j =>
    rw [e] at h
    exact r.get (i := j) h
theorem je_ixT {a b : Expr} {ds : List D} {i : Int} {d : D} {pos : Pos} (ha : JE X W ρ a (.ok (.tup ds))) (hb : JW X ρ b (.int i)) (h : L2.atI ds i = some d) (hs : PlainIx b := by intro _ _; rfl) : JE X W ρ (.Subscript a b pos) (.ok d) :=
  PE.imp (pe_ix ix_tup ha hb hs) fun σ H Q ⟨F, G0, G, a0, k⟩ => ⟨F, G0, G, a0, fun v G1 H1 g1 h1 a1 r1 => ⟨F, G0, G1, a1, fun u G2 H2 g2 h2 a2 r2 => by
    cases r2
    cases r1 with
    | tup q r =>
      obtain ⟨w, e1, e2⟩ := r.atI h
      exact ⟨_, _, i, w, rfl, rfl, sqT_ex (g2.tr a2.gh) q, e1, k w G2 H2 (g1.tr g2) (h1.tr h2) a2 (e2.up g2)⟩⟩⟩
theorem je_ixL {a b : Expr} {ds : List D} {i : Int} {d : D} {pos : Pos} (ha : JE X W ρ a (.ok (.lst ds))) (hb : JW X ρ b (.int i)) (h : L2.atI ds i = some d) (hs : PlainIx b := by intro _ _; rfl) : JE X W ρ (.Subscript a b pos) (.ok d) :=
  PE.imp (pe_ix ix_list ha hb hs) fun σ H Q ⟨F, G0, G, a0, k⟩ => ⟨F, G0, G, a0, fun v G1 H1 g1 h1 a1 r1 => ⟨F, G0, G1, a1, fun u G2 H2 g2 h2 a2 r2 => by
    cases r2
    cases r1 with
    | lst q r =>
      obtain ⟨w, e1, e2⟩ := r.atI h
      exact ⟨_, _, i, w, rfl, rfl, .of ((g2.tr a2.gh) _ _ q), e1, k w G2 H2 (g1.tr g2) (h1.tr h2) a2 (e2.up g2)⟩⟩⟩
theorem je_ixF {a b : Expr} {ds : List D} {i : Int} {d : D} {pos : Pos} (ha : JE X W ρ a (.ok (.fls ds))) (hb : JW X ρ b (.int i)) (h : L2.atI ds i = some d) (hs : PlainIx b := by intro _ _; rfl) : JE X W ρ (.Subscript a b pos) (.ok d) :=
  PE.imp (pe_ix ix_list ha hb hs) fun σ H Q ⟨F, G0, G, a0, k⟩ => ⟨F, G0, G, a0, fun v G1 H1 g1 h1 a1 r1 => ⟨F, G0, G1, a1, fun u G2 H2 g2 h2 a2 r2 => by
    cases r2
    cases r1 with
    | fls q r =>
      obtain ⟨w, e1, e2⟩ := r.atI h
      exact ⟨_, _, i, w, rfl, rfl, sqL_ex (g2.tr a2.gh) q, e1, k w G2 H2 (g1.tr g2) (h1.tr h2) a2 (e2.up g2)⟩⟩⟩
/-- an item of an own list -/
theorem je_ixM {j : Nat} {x : Str} {b : Expr} {ds : List D} {i : Int} {d : D} {p pos : Pos} (hj : ρ[j]? = some (.mu ds)) (hN : X.N[j]? = some x) (hv : Vis X.env.scope x) (hb : JW X ρ b (.int i)) (h : L2.atI ds i = some d) (hs : PlainIx b := by intro _ _; rfl)
    (hd : (x == ("__debug__" : Str)) = false := by decide) (hcd : (x == ("__classdict__" : Str)) = false := by decide) : JE X W ρ (.Subscript (.Name x p) b pos) (.ok d) :=
  PE.imp (pe_ix ix_list (pe_var hN hv hd hcd) hb hs) fun σ H Q ⟨F, G0, G, a0, k⟩ => by
    obtain ⟨q, xs, h1, h2, h3, h4, h5⟩ := a0.mu hj
    refine ⟨_, h1, F, G0, G, a0, fun u G2 H2 g2 h6 a2 r2 => ?_⟩
    cases r2
    obtain ⟨w, e1, e2⟩ := h5.atI h
    exact ⟨_, _, i, w, rfl, rfl, .of (h6 _ _ h4), e1, k w G2 H2 g2 h6 a2 (e2.up g2)⟩

/-! ### calls of what is built in, the answer flat -/
def CallW (X : Cx) (f : Value) (ds : List D) (d : D) : Prop :=
  ∃ R : List V → Hp → VK → Prop, CallR X f R ∧ d.flat = true ∧ ∀ H vs (Q : VK), RpA X.K H vs ds → (∀ v, Rp X.K H v d → Q v H) → R vs H Q
theorem je_callB {x : Str} {id : String} {e : Expr} {es : List Expr} {ds : List D} {d : D} {p pos : Pos} (ha : JB X ρ (e :: es) ds) (hc : CallW X (.builtin id) ds d) (hg : Gl X x) (hm : X.mg x = none) (hv : bootBuiltins x = some (.builtin id)) (hn : x ≠ "__name__" := by decide) (hdb : (x == ("__debug__" : Str)) = false := by decide)
    (he : starEach (e :: es) X.env = (false, eval e X.env) :: starEach es X.env := by rfl) (hpl : (backTo pos (starEach es X.env)).any (·.1) = false := by rfl) : JE X W ρ (.Call (.Name x p) (e :: es) [] pos) (.ok d) := by
  obtain ⟨R, hR, fl, h⟩ := hc
  exact PE.imp (pe_callB hR hg hm hv ha hn hdb he hpl) fun σ H Q ⟨F, G0, G, a0, k⟩ => ⟨F, G0, G, a0, fun vs G1 H1 g1 h1 a1 r1 => h H1 vs Q r1 fun v' r' => k v' G1 H1 g1 h1 a1 (r'.any fl)⟩
theorem je_callTy {x : Str} {T : String} {e : Expr} {es : List Expr} {ds : List D} {d : D} {p pos : Pos} (ha : JB X ρ (e :: es) ds) (hc : CallW X (.type T) ds d) (hg : Gl X x) (hm : X.mg x = none) (hv : bootBuiltins x = some (.type T)) (hn : x ≠ "__name__" := by decide) (hdb : (x == ("__debug__" : Str)) = false := by decide)
    (he : starEach (e :: es) X.env = (false, eval e X.env) :: starEach es X.env := by rfl) (hpl : (backTo pos (starEach es X.env)).any (·.1) = false := by rfl) : JE X W ρ (.Call (.Name x p) (e :: es) [] pos) (.ok d) := by
  obtain ⟨R, hR, fl, h⟩ := hc
  exact PE.imp (pe_callTy hR hg hm hv ha hn hdb he hpl) fun σ H Q ⟨F, G0, G, a0, k⟩ => ⟨F, G0, G, a0, fun vs G1 H1 g1 h1 a1 r1 => h H1 vs Q r1 fun v' r' => k v' G1 H1 g1 h1 a1 (r'.any fl)⟩
theorem je_callBf {x : Str} {id : String} {e : Expr} {es : List Expr} {ds : List D} {d : D} {p pos : Pos} (ha : JB X ρ (e :: es) ds) (hc : CallW X (.builtin id) ds d) (hg : Gl X x) (hm : X.mg x = some (.builtin id)) (hdb : (x == ("__debug__" : Str)) = false := by decide)
    (he : starEach (e :: es) X.env = (false, eval e X.env) :: starEach es X.env := by rfl) (hpl : (backTo pos (starEach es X.env)).any (·.1) = false := by rfl) : JE X W ρ (.Call (.Name x p) (e :: es) [] pos) (.ok d) := by
  obtain ⟨R, hR, fl, h⟩ := hc
  exact PE.imp (pe_callBfun hR hg hm ha hdb he hpl) fun σ H Q ⟨F, G0, G, a0, k⟩ => ⟨F, G0, G, a0, fun vs G1 H1 g1 h1 a1 r1 => h H1 vs Q r1 fun v' r' => k v' G1 H1 g1 h1 a1 (r'.any fl)⟩

/-! ### the promise of a def -/
def SpD (K : PySem.W.Frag) (mg : Str → Option Value) (Spec : List D → Res → Prop) : Sp := fun vs H Q E => ∃ ds r G, Spec ds r ∧ Ex G H ∧ RpA K G vs ds ∧ match r with
  | .ok d => ∀ v G' H', Ex G G' → Ex G' H' → Ex H H' → (∀ p, H p ≠ none → G p = none → G' p = none) → Rp K G' v d → Q v H'
  | .nl es => ∀ p xs G' H', Ex G G' → Ex G' H' → Ex H H' → (∀ p, H p ≠ none → G p = none → G' p = none) → H p = none → G' p = none → H' p = some (.lst xs) → RpA K G' xs es → Q (.ref p) H'
  | .er c => ∀ H', Ex H H' → E (.ref (exA mg c)) none H'
abbrev FnD (P : Program) (w : World) (K : PySem.W.Frag) (mg : Str → Option Value) (base : Heap) (k : Nat) (f : Addr) (fd : FuncData) (ps : List Str) (Spec : List D → Res → Prop) : Prop := FnOk P w K mg base (L2.CX P w) k f fd ps (SpD K mg Spec)
/-- a def of the module: where it stands, what it promises -/
structure DefOk (P : Program) (w : World) (K : PySem.W.Frag) (mg : Str → Option Value) (base : Heap) (k : Nat) (x : Str) (Spec : List D → Res → Prop) : Prop where
  ex : ∃ f fd ps, FnD P w K mg base k f fd ps Spec ∧ mg x = some (.ref f) ∧ PySem.W.keepIn K (.ref f) = true ∧ Binds K fd ps []
abbrev DefX (X : Cx) (k : Nat) (x : Str) (Spec : List D → Res → Prop) : Prop := DefOk X.prog X.w X.K X.mg X.base k x Spec
theorem je_call {x : Str} {k j : Nat} {Spec : List D → Res → Prop} {e : Expr} {es : List Expr} {ds : List D} {r : Res} {p pos : Pos} (tk : Takes X W) (hr : Room j X.A) (D0 : DefX X k x Spec) (ha : JA X ρ (e :: es) ds) (hs : Spec ds r) (hk : k ≤ j) (hg : Gl X x)
    (hdb : (x == ("__debug__" : Str)) = false := by decide) (he : starEach (e :: es) X.env = (false, eval e X.env) :: starEach es X.env := by rfl) (hpl : (backTo pos (starEach es X.env)).any (·.1) = false := by rfl) : JE X W ρ (.Call (.Name x p) (e :: es) [] pos) r := by
  obtain ⟨f, fd, ps, Fn, hm, hkp, hb⟩ := D0.ex
  refine PE.imp (pe_callS Fn (hr.mono hk) hg hm hkp hb (fun σ => passAt tk σ) ha hdb he hpl) fun σ H Q ⟨F, G0, G, a0, q⟩ => ⟨F, G0, G, a0, fun vs G1 H1 g1 h1 a1 r1 => ⟨ds, r, G1, hs, a1.gh, r1, ?_⟩⟩
  cases r with
  | ok d => exact fun v G' H' g gh hh nw rd => q v G' H' (g1.tr g) (h1.tr hh) (a1.both hh g gh nw) rd
  | nl es => exact fun p xs G' H' g gh hh nw n1 n2 e rd => q p xs G' H' (g1.tr g) (h1.tr hh) (a1.both hh g gh nw) (h1.free n1) n2 e rd
  | er c => exact fun H' hh => q G1 H' g1 (h1.tr hh) (a1.grow hh)
/-- .. whose arguments may be own lists, the answer flat -/
theorem je_callW {x : Str} {k j : Nat} {Spec : List D → Res → Prop} {e : Expr} {es : List Expr} {ds : List D} {d : D} {p pos : Pos} (tk : Takes X W) (hr : Room j X.A) (D0 : DefX X k x Spec) (ha : JB X ρ (e :: es) ds) (hs : Spec ds (.ok d)) (fl : d.flat = true) (hk : k ≤ j) (hg : Gl X x)
    (hdb : (x == ("__debug__" : Str)) = false := by decide) (he : starEach (e :: es) X.env = (false, eval e X.env) :: starEach es X.env := by rfl) (hpl : (backTo pos (starEach es X.env)).any (·.1) = false := by rfl) : JE X W ρ (.Call (.Name x p) (e :: es) [] pos) (.ok d) := by
  obtain ⟨f, fd, ps, Fn, hm, hkp, hb⟩ := D0.ex
  refine PE.imp (pe_callS Fn (hr.mono hk) hg hm hkp hb (fun σ => passAt tk σ) ha hdb he hpl) fun σ H Q ⟨F, G0, G, a0, q⟩ => ⟨F, G0, G, a0, fun vs G1 H1 g1 h1 a1 r1 => ⟨ds, .ok d, H1, hs, Ex.rf H1, r1, ?_⟩⟩
  exact fun v G' H' g gh hh nw rd => q v G1 H' g1 (h1.tr hh) (a1.grow hh) (rd.any fl)
end
end DL

namespace DL
open PySem PySem.Spec PyProof.Rows L2

/-! ### statements: what comes of them -/
inductive Out where
  | nx (ρ : List Cell) | bk (ρ : List Cell) | ct (ρ : List Cell) | rt (r : Res) | er (c : Str) (ρ : List Cell)
section
variable (K : PySem.W.Frag) (mg : Str → Option Value)
def OutK (W : WX) (F G0 G H0 : Hp) (D : Ends) : Out → Prop
  | .nx ρ' => ∀ σ' G' H', Ex G G' → At K F G0 ρ' G' σ' H' → D.nx σ' H'
  | .bk ρ' => ∀ σ' G' H', Ex G G' → At K F G0 ρ' G' σ' H' → D.bk σ' H'
  | .ct ρ' => ∀ σ' G' H', Ex G G' → At K F G0 ρ' G' σ' H' → D.ct σ' H'
  | .rt (.ok d) => ∀ σ' ρ' v G' H', Ex G G' → At K F G0 ρ' G' σ' H' → Rp K G' v d → D.rt v H'
  | .rt (.nl ds) => ∀ σ' ρ' p xs G' H', Ex G G' → At K F G0 ρ' G' σ' H' → F p = none → G' p = none → H' p = some (.lst xs) → RpA K G' xs ds → D.rt (.ref p) H'
  | .rt (.er _) => True
  | .er c ρ' => ∀ σ' G' H', Ex G G' → At K F G0 ρ' G' σ' H' → W (.ref (exA mg c)) none σ' H'
def cS (ρ : List Cell) (Φ : Out → Prop) (W : WX) : TS := fun D σ H => ∃ F G0 G, At K F G0 ρ G σ H ∧ ∀ o, Φ o → OutK K mg W F G0 G H D o
end
section
variable {K : PySem.W.Frag} {mg : Str → Option Value}
theorem OutK.grow {W : WX} {F G0 G G1 H0 : Hp} {D : Ends} {o : Out} (g : Ex G G1) (h : OutK K mg W F G0 G H0 D o) : OutK K mg W F G0 G1 H0 D o := by
  cases o with
  | nx ρ' => exact fun σ' G' H' e a => h σ' G' H' (g.tr e) a
  | bk ρ' => exact fun σ' G' H' e a => h σ' G' H' (g.tr e) a
  | ct ρ' => exact fun σ' G' H' e a => h σ' G' H' (g.tr e) a
  | rt r =>
    cases r with
    | ok d => exact fun σ' ρ' v G' H' e a r => h σ' ρ' v G' H' (g.tr e) a r
    | nl ds => exact fun σ' ρ' p xs G' H' e a n1 n2 z r => h σ' ρ' p xs G' H' (g.tr e) a n1 n2 z r
    | er c => trivial
  | er c ρ' => exact fun σ' G' H' e a => h σ' G' H' (g.tr e) a
theorem OutK.heap {W : WX} {F G0 G H0 H1 : Hp} {D : Ends} {o : Out} (h : OutK K mg W F G0 G H0 D o) : OutK K mg W F G0 G H1 D o := by
  cases o with
  | rt r => cases r <;> exact h
  | _ => exact h
end
abbrev JS (X : Cx) (W : WX) (ρ : List Cell) (st : Stmt) (Φ : Out → Prop) : Prop := PS X st (cS X.K X.mg ρ Φ W)
abbrev JSs (X : Cx) (W : WX) (ρ : List Cell) (sts : List Stmt) (Φ : Out → Prop) : Prop := PSs X sts (cS X.K X.mg ρ Φ W)
/-- behind a statement the rest follows -/
def thn (X : Cx) (W : WX) (rest : List Stmt) (Φ : Out → Prop) : Out → Prop
  | .nx ρ' => JSs X W ρ' rest Φ
  | .bk ρ' => Φ (.bk ρ')
  | .ct ρ' => Φ (.ct ρ')
  | .rt r => Φ (.rt r)
  | .er c ρ' => Φ (.er c ρ')
section
variable {X : Cx} {W : WX} {ρ : List Cell} {Φ : Out → Prop}
theorem PS.imp {st : Stmt} {t t' : TS} (h : PS X st t) (w : ∀ D σ H, t' D σ H → t D σ H) : PS X st t' := ⟨fun pins s σ H D I q => h.run pins s σ H D I (w _ _ _ q)⟩
theorem PSs.imp {st : List Stmt} {t t' : TS} (h : PSs X st t) (w : ∀ D σ H, t' D σ H → t D σ H) : PSs X st t' := ⟨fun pins s σ H D I q => h.run pins s σ H D I (w _ _ _ q)⟩
theorem JSs.post {Φ' : Out → Prop} {sts : List Stmt} (h : JSs X W ρ sts Φ') (i : ∀ o, Φ' o → Φ o) : JSs X W ρ sts Φ := PSs.imp h fun D σ H ⟨F, G0, G, a, k⟩ => ⟨F, G0, G, a, fun o ho => k o (i o ho)⟩
theorem JS.post {Φ' : Out → Prop} {sts : Stmt} (h : JS X W ρ sts Φ') (i : ∀ o, Φ' o → Φ o) : JS X W ρ sts Φ := PS.imp h fun D σ H ⟨F, G0, G, a, k⟩ => ⟨F, G0, G, a, fun o ho => k o (i o ho)⟩
theorem jss_nil (h : Φ (.nx ρ)) : JSs X W ρ [] Φ := PSs.imp pss_nil fun D σ H ⟨F, G0, G, a, k⟩ => k _ h σ G H (Ex.rf G) a
/-- some reading of a block that fits -/
def anyS (X : Cx) (W : WX) (sts : List Stmt) : TS := fun D σ H => ∃ ρ' Φ', JSs X W ρ' sts Φ' ∧ cS X.K X.mg ρ' Φ' W D σ H
theorem pss_any {sts : List Stmt} : PSs X sts (anyS X W sts) := ⟨fun pins s σ H D I ⟨_, _, h, q⟩ => h.run pins s σ H D I q⟩
theorem jss_cons {st : Stmt} {rest : List Stmt} (h : JS X W ρ st (thn X W rest Φ)) : JSs X W ρ (st :: rest) Φ :=
  PSs.imp (pss_cons h (pss_any (W := W))) fun D σ H ⟨F, G0, G, a, k⟩ => ⟨F, G0, G, a, fun o ho => by
    cases o with
    | nx ρ' => exact fun σ' G' H' g a' => ⟨ρ', Φ, ho, F, G0, G', a', fun o ho => ((k o ho).grow g).heap⟩
    | bk ρ' => exact k (.bk ρ') ho
    | ct ρ' => exact k (.ct ρ') ho
    | rt r => cases r <;> exact k (.rt _) ho
    | er c ρ' => exact k (.er c ρ') ho⟩

/-! ### ghost steps -/
theorem jss_frz {i : Nat} {ds : List D} {sts : List Stmt} (h : ρ[i]? = some (.mu ds)) (k : JSs X W (ρ.set i (.fz (.lst ds))) sts Φ) : JSs X W ρ sts Φ := PSs.imp k fun D σ H ⟨F, G0, G, a, q⟩ => by
  obtain ⟨G', g, a'⟩ := a.freeze h
  exact ⟨F, G0, G', a', fun o ho => (q o ho).grow g⟩

/-! ### small statements -/
theorem js_pass {pos : Pos} (h : Φ (.nx ρ)) : JS X W ρ (.Pass pos) Φ := PS.imp ps_pass fun D σ H ⟨F, G0, G, a, k⟩ => k _ h σ G H (Ex.rf G) a
theorem js_break {pos : Pos} (h : Φ (.bk ρ)) : JS X W ρ (.Break pos) Φ := PS.imp ps_break fun D σ H ⟨F, G0, G, a, k⟩ => k _ h σ G H (Ex.rf G) a
theorem js_continue {pos : Pos} (h : Φ (.ct ρ)) : JS X W ρ (.Continue pos) Φ := PS.imp ps_continue fun D σ H ⟨F, G0, G, a, k⟩ => k _ h σ G H (Ex.rf G) a
theorem js_ret {e : Expr} {d : D} {pos : Pos} (h : JE X W ρ e (.ok d)) (k : Φ (.rt (.ok d))) : JS X W ρ (.Return (some e) pos) Φ := PS.imp (ps_ret h) fun D σ H ⟨F, G0, G, a, q⟩ => ⟨F, G0, G, a, fun v G' H' g hh a' r => q _ k σ ρ v G' H' g a' r⟩
theorem js_retN {e : Expr} {ds : List D} {pos : Pos} (h : JE X W ρ e (.nl ds)) (k : Φ (.rt (.nl ds))) : JS X W ρ (.Return (some e) pos) Φ := PS.imp (ps_ret h) fun D σ H ⟨F, G0, G, a, q⟩ => ⟨F, G0, G, a, fun p xs G' H' g hh a' n1 n2 e r => q _ k σ ρ p xs G' H' g a' (a.fh.free n1) n2 e r⟩
theorem js_retE {e : Expr} {c : Str} {pos : Pos} (h : JE X W ρ e (.er c)) (k : Φ (.er c ρ)) : JS X W ρ (.Return (some e) pos) Φ := PS.imp (ps_ret h) fun D σ H ⟨F, G0, G, a, q⟩ => ⟨F, G0, G, a, fun G' H' g hh a' => q _ k σ G' H' g a'⟩
/-- an own list is handed back -/
theorem js_retM {i : Nat} {x : Str} {ds : List D} {p pos : Pos} (h : ρ[i]? = some (.mu ds)) (hN : X.N[i]? = some x) (hv : Vis X.env.scope x) (k : Φ (.rt (.nl ds))) (hd : (x == ("__debug__" : Str)) = false := by decide) (hcd : (x == ("__classdict__" : Str)) = false := by decide) :
    JS X W ρ (.Return (some (.Name x p)) pos) Φ := PS.imp (ps_ret (pe_var hN hv hd hcd)) fun D σ H ⟨F, G0, G, a, q⟩ => by
  obtain ⟨p, xs, h1, h2, h3, h4, h5⟩ := a.mu h
  exact ⟨_, h1, q _ k σ ρ p xs G H (Ex.rf G) a h2 h3 h4 h5⟩
theorem js_expr {e : Expr} {d : D} {pos : Pos} (h : JE X W ρ e (.ok d)) (k : Φ (.nx ρ)) (hs : swapsWith e none pos.line X.env = pure false := by rfl) : JS X W ρ (.Expr e pos) Φ := PS.imp (ps_expr h hs) fun D σ H ⟨F, G0, G, a, q⟩ => ⟨F, G0, G, a, fun v G' H' g hh a' r => q _ k σ G' H' g a'⟩
theorem js_exprE {e : Expr} {c : Str} {pos : Pos} (h : JE X W ρ e (.er c)) (k : Φ (.er c ρ)) (hs : swapsWith e none pos.line X.env = pure false := by rfl) : JS X W ρ (.Expr e pos) Φ := PS.imp (ps_expr h hs) fun D σ H ⟨F, G0, G, a, q⟩ => ⟨F, G0, G, a, fun G' H' g hh a' => q _ k σ G' H' g a'⟩
theorem js_set {i : Nat} {x : Str} {e : Expr} {d : D} {pos pos' : Pos} (nd : X.N.Nodup) (hi : X.N[i]? = some x) (hx : Loc X.env.scope x) (h : JE X W ρ e (.ok d)) (k : Φ (.nx (ρ.set i (.fz d)))) (hs : swapsWith e (some (.Name x pos')) pos.line X.env = pure false := by rfl)
    (hf : X.fn x = true ∨ X.env.scope.names.lookup x = some .local := by first | exact .inl rfl | exact .inr rfl) : JS X W ρ (.Assign [.Name x pos'] e pos) Φ := PS.imp (ps_set nd hi hx h hs hf) fun D σ H ⟨F, G0, G, a, q⟩ => ⟨F, G0, G, a, fun v G' H' g hh a' r => q _ k _ G' H' g (a'.setF r)⟩
theorem js_setN {i : Nat} {x : Str} {e : Expr} {ds : List D} {pos pos' : Pos} (nd : X.N.Nodup) (hi : X.N[i]? = some x) (hx : Loc X.env.scope x) (h : JE X W ρ e (.nl ds)) (k : Φ (.nx (ρ.set i (.mu ds)))) (hs : swapsWith e (some (.Name x pos')) pos.line X.env = pure false := by rfl)
    (hf : X.fn x = true ∨ X.env.scope.names.lookup x = some .local := by first | exact .inl rfl | exact .inr rfl) : JS X W ρ (.Assign [.Name x pos'] e pos) Φ := PS.imp (ps_set nd hi hx h hs hf) fun D σ H ⟨F, G0, G, a, q⟩ => ⟨F, G0, G, a, fun p xs G' H' g hh a' n1 n2 e r => by
  refine q _ k _ G' H' g (a'.setM (a.fh.free n1) n2 e r fun j c hj h1 o1 e1 => ?_)
  cases c with
  | un => cases o1
  | fz d => cases o1
  | mu es =>
    obtain ⟨p2, ys, q1, q2, q3, q4, q5⟩ := a.mu h1
    rw [e1] at q1
    cases q1
    rw [n1] at q4
    cases q4⟩
theorem js_setE {i : Nat} {x : Str} {e : Expr} {c : Str} {pos pos' : Pos} (nd : X.N.Nodup) (hi : X.N[i]? = some x) (hx : Loc X.env.scope x) (h : JE X W ρ e (.er c)) (k : Φ (.er c ρ)) (hs : swapsWith e (some (.Name x pos')) pos.line X.env = pure false := by rfl)
    (hf : X.fn x = true ∨ X.env.scope.names.lookup x = some .local := by first | exact .inl rfl | exact .inr rfl) : JS X W ρ (.Assign [.Name x pos'] e pos) Φ := PS.imp (ps_set nd hi hx h hs hf) fun D σ H ⟨F, G0, G, a, q⟩ => ⟨F, G0, G, a, fun G' H' g hh a' => q _ k σ G' H' g a'⟩
theorem js_if {c : Expr} {a b : List Stmt} {k : Bool} {pos : Pos} (h : JT X ρ c k) (h1 : k = true → JSs X W ρ a Φ) (h2 : k = false → JSs X W ρ b Φ) : JS X W ρ (.If c a b pos) Φ :=
  PS.imp (ps_if h (pss_any (W := W)) (pss_any (W := W))) fun D σ H ⟨F, G0, G, a0, q⟩ => ⟨F, G0, G, a0, fun G' H' g hh a' => by
    cases k with
    | true => exact iteT ⟨ρ, Φ, h1 rfl, F, G0, G', a', fun o ho => ((q o ho).grow g).heap⟩
    | false => exact iteF ⟨ρ, Φ, h2 rfl, F, G0, G', a', fun o ho => ((q o ho).grow g).heap⟩⟩
/-- a, b = x, y: two plain local names -/
theorem js_par {i j : Nat} {x y : Str} {a b : Expr} {d1 d2 : D} {px py pt : Pos} {kt k2 pt2} {pos : Pos} (hc : X.calm = true) (nd : X.N.Nodup) (hi : X.N[i]? = some x) (hj : X.N[j]? = some y) (hij : i ≠ j)
    (hx : X.env.scope.names.lookup x = some .local) (hy : X.env.scope.names.lookup y = some .local) (h : JA X ρ [a, b] [d1, d2]) (k : Φ (.nx ((ρ.set i (.fz d1)).set j (.fz d2))))
    (hw : swappedStores [.Tuple [.Name x px, .Name y py] kt pt] (.Tuple [a, b] k2 pt2) X.env = pure (some [x, y]))
    (hs : swapsWithSole [.Tuple [.Name x px, .Name y py] kt pt] (.Tuple [a, b] k2 pt2) pos.line X.env = pure false := by rfl) : JS X W ρ (.Assign [.Tuple [.Name x px, .Name y py] kt pt] (.Tuple [a, b] k2 pt2) pos) Φ :=
  PS.imp (ps_par hc nd hi hj hij hx hy h hw hs) fun D σ H ⟨F, G0, G, a, q⟩ => ⟨F, G0, G, a, fun vs G' H' g hh a' r => by
    cases r with
    | cons r1 r2 =>
      cases r2 with
      | cons r2 r3 =>
        cases r3
        exact ⟨_, _, rfl, q _ k _ G' H' g ((a'.setF r1).setF r2)⟩⟩
/-- x.append(e), x an own list -/
theorem js_append {i : Nat} {x : Str} {e : Expr} {ds : List D} {d : D} {p apos cpos pos : Pos} (hl : ρ[i]? = some (.mu ds)) (hN : X.N[i]? = some x) (hv : Vis X.env.scope x) (h : JE X W ρ e (.ok d)) (hz : ds.length < sizeLine) (k : Φ (.nx (ρ.set i (.mu (ds ++ [d])))))
    (hbase : attributeBase (.Name x p) "append" X.env (eval (.Name x p) X.env) = eval (.Name x p) X.env := by rfl)
    (hfew : ((backTo cpos (starEach (e :: []) X.env)).all (fun x => !x.1) && (backToKw cpos (keywordEach [] X.env)).all (fun x => x.1.isSome)
      && decide ((e :: []).length + ([] : List Keyword).length + (if ([] : List Keyword).isEmpty then 0 else 1) < 30)) = true := by rfl)
    (hline : (apos.endLine == cpos.line) = true := by rfl) (hs : starEach (e :: []) X.env = (false, eval e X.env) :: starEach [] X.env := by rfl) (hplain : (backTo cpos (starEach [] X.env)).any (·.1) = false := by rfl)
    (hsw : swapsWith (.Call (.Attribute (.Name x p) "append" apos) [e] [] cpos) none pos.line X.env = pure false := by rfl)
    (hd : (x == ("__debug__" : Str)) = false := by decide) (hcd : (x == ("__classdict__" : Str)) = false := by decide) : JS X W ρ (.Expr (.Call (.Attribute (.Name x p) "append" apos) [e] [] cpos) pos) Φ :=
  PS.imp (ps_expr (pe_bm PySem.F.plainAttrs_list PySem.F.slot_list_append PySem.F.type_list_append mt_append (pe_var hN hv hd hcd) (ja_cons h ja_nil hs) hbase hfew hline hs hplain) hsw) fun D σ H ⟨F, G0, G, a, q⟩ => by
    obtain ⟨p, xs, h1, h2, h3, h4, h5⟩ := a.mu hl
    refine ⟨_, h1, .inl ⟨rfl, _, SqL.of h4⟩, F, G0, G, a, fun vs G1 H1 g1 hh1 a1 r1 => ?_⟩
    cases r1 with
    | cons r1 r2 =>
      cases r2
      rename_i v
      refine ⟨p, xs, v, rfl, rfl, hh1 _ _ h4, by rw [h5.len]; exact hz, ?_⟩
      exact q _ k _ G1 _ g1 (a1.write hl h1 ((h5.up g1).app (.cons r1 .nil)))

/-! ### targets -/
def cG (K : PySem.W.Frag) (ρ : List Cell) (d : D) (ρ' : List Cell) : TG := fun v σ H Q => ∃ F G0 G, At K F G0 ρ G σ H ∧ Rp K G v d ∧ ∀ σ', At K F G0 ρ' G σ' H → Q σ' H
abbrev JG (X : Cx) (ρ : List Cell) (tg : Expr) (d : D) (ρ' : List Cell) : Prop := PG X tg (cG X.K ρ d ρ')
theorem PG.imp {tg : Expr} {t t' : TG} (h : PG X tg t) (w : ∀ v σ H Q, t' v σ H Q → t v σ H Q) : PG X tg t' := ⟨fun pins s σ H v u Q I r q => h.run pins s σ H v u Q I r (w _ _ _ _ q)⟩
theorem jg_name {i : Nat} {x : Str} {d : D} {pos : Pos} (nd : X.N.Nodup) (hi : X.N[i]? = some x) (hx : Loc X.env.scope x) (hf : X.fn x = true ∨ X.env.scope.names.lookup x = some .local := by first | exact .inl rfl | exact .inr rfl) : JG X ρ (.Name x pos) d (ρ.set i (.fz d)) :=
  PG.imp (pg_name nd hi hx hf) fun v σ H Q ⟨F, G0, G, a, r, q⟩ => q _ (a.setF r)
def cGs (K : PySem.W.Frag) (ρ : List Cell) (ds : List D) (ρ' : List Cell) : TGs := fun vs σ H Q => ∃ F G0 G, At K F G0 ρ G σ H ∧ RpA K G vs ds ∧ ∀ σ', At K F G0 ρ' G σ' H → Q σ' H
abbrev JGs (X : Cx) (ρ : List Cell) (tgs : List Expr) (ds : List D) (ρ' : List Cell) : Prop := PGs X tgs (cGs X.K ρ ds ρ')
theorem PGs.imp {tg : List Expr} {t t' : TGs} (h : PGs X tg t) (w : ∀ v σ H Q, t' v σ H Q → t v σ H Q) : PGs X tg t' := ⟨fun pins s σ H v u Q I r q => h.run pins s σ H v u Q I r (w _ _ _ _ q)⟩
theorem jgs_nil : JGs X ρ [] [] ρ := PGs.imp pgs_nil fun v σ H Q ⟨F, G0, G, a, r, q⟩ => by
  cases r
  exact ⟨rfl, q _ a⟩
theorem jgs_cons {ρ1 ρ2 : List Cell} {e : Expr} {es : List Expr} {d : D} {ds : List D} (h : JG X ρ e d ρ1) (hr : JGs X ρ1 es ds ρ2) (hs : (assignEach (e :: es) X.env).map (·.2) = assign e X.env :: (assignEach es X.env).map (·.2) := by rfl) : JGs X ρ (e :: es) (d :: ds) ρ2 :=
  PGs.imp (pgs_cons h hr hs) fun vs σ H Q ⟨F, G0, G, a, r, q⟩ => by
    cases r with
    | cons r1 r2 => exact ⟨_, _, rfl, F, G0, G, a, r1, fun σ' a' => ⟨F, G0, G, a', r2, q⟩⟩
theorem jg_tup {ρ1 : List Cell} {es : List Expr} {ds : List D} {k : Nat} {n : Nat} {pos : Pos} (hc : X.calm = true) (h : JGs X ρ es ds ρ1) (hl : ds.length = n) (hn : (assignEach es X.env).length = n := by rfl) (hst : (assignEach es X.env).findIdx? (·.1) = none := by rfl) : JG X ρ (.Tuple es k pos) (.tup ds) ρ1 :=
  PG.imp (pg_tup hc h hn hst) fun v σ H Q ⟨F, G0, G, a, r, q⟩ => by
    cases r with
    | tup z r => exact ⟨_, _, rfl, sqT_ex a.gh z, by rw [r.len]; exact hl, F, G0, G, a, r, q⟩
/-- target = e -/
theorem js_asg {ρ1 : List Cell} {tg e : Expr} {d : D} {pos : Pos} (h : JE X W ρ e (.ok d)) (hg : JG X ρ tg d ρ1) (k : Φ (.nx ρ1)) (hs : swapsWithSole [tg] e pos.line X.env = pure false := by rfl) (hw : swappedStores [tg] e X.env = pure none := by rfl)
    (h1 : (assignEach [tg] X.env).map (·.2) = [assign tg X.env] := by rfl) : JS X W ρ (.Assign [tg] e pos) Φ := PS.imp (ps_asg h hg hs hw h1) fun D σ H ⟨F, G0, G, a, q⟩ => ⟨F, G0, G, a, fun v G' H' g hh a' r => ⟨F, G0, G', a', r, fun σ' a2 => q _ k σ' G' H' g a2⟩⟩

/-! ### loops -/
/-- what a turn may come to -/
def turnΦ (Inv : Nat → List Cell → Prop) (i : Nat) (Φ : Out → Prop) : Out → Prop
  | .nx ρ' => Inv (i + 1) ρ'
  | .ct ρ' => Inv (i + 1) ρ'
  | .bk ρ' => Φ (.nx ρ')
  | .rt r => Φ (.rt r)
  | .er c ρ' => Φ (.er c ρ')
def anyG (X : Cx) (tg : Expr) : TG := fun v σ H Q => ∃ ρ' d ρ2, JG X ρ' tg d ρ2 ∧ cG X.K ρ' d ρ2 v σ H Q
theorem pg_any {tg : Expr} : PG X tg (anyG X tg) := ⟨fun pins s σ H v u Q I r ⟨_, _, _, h, q⟩ => h.run pins s σ H v u Q I r q⟩
theorem turn_ok {En : Ends} {F G0 G1 H H0 G : Hp} {Inv : Nat → List Cell → Prop} {i : Nat} {tg : Expr} {body : List Stmt} {ρ1 ρ2 : List Cell} {d : D} {v : V} {σ : L2.St} (a : At X.K F G0 ρ1 G1 σ H) (g : Ex G G1) (r : Rp X.K G1 v d) (hg : JG X ρ1 tg d ρ2) (hb : JSs X W ρ2 body (turnΦ Inv i Φ))
    (q : ∀ o, Φ o → OutK X.K X.mg W F G0 G H0 En o) :
    anyG X tg v σ H fun σ2 H2 => anyS X W body { En with nx := fun σ' H' => ∃ ρ3 G3, Inv (i + 1) ρ3 ∧ Ex G G3 ∧ At X.K F G0 ρ3 G3 σ' H', ct := fun σ' H' => ∃ ρ3 G3, Inv (i + 1) ρ3 ∧ Ex G G3 ∧ At X.K F G0 ρ3 G3 σ' H', bk := En.nx } σ2 H2 := by
  refine ⟨ρ1, d, ρ2, hg, F, G0, G1, a, r, fun σ2 a2 => ⟨ρ2, _, hb, F, G0, G1, a2, fun o ho => ?_⟩⟩
  cases o with
  | nx ρ' => exact fun σ' G' H' g' a' => ⟨ρ', G', ho, g.tr g', a'⟩
  | ct ρ' => exact fun σ' G' H' g' a' => ⟨ρ', G', ho, g.tr g', a'⟩
  | bk ρ' => exact fun σ' G' H' g' a' => q (.nx ρ') ho σ' G' H' (g.tr g') a'
  | rt r =>
    have z := ((q (.rt r) ho).grow g).heap (H1 := H)
    cases r <;> exact z
  | er c ρ' => exact ((q (.er c ρ') ho).grow g).heap (H1 := H)
theorem js_forL {tg iter : Expr} {body : List Stmt} {ds : List D} {pos : Pos} (po : PassesOwn (model X.prog X.w) X.A X.env X.xe) (hc : X.calm = true) (hi : JE X W ρ iter (.ok (.lst ds))) (Inv : Nat → List Cell → Prop) (h0 : Inv 0 ρ)
    (turn : ∀ i d ρ1, ds[i]? = some d → Inv i ρ1 → ∃ ρ2, JG X ρ1 tg d ρ2 ∧ JSs X W ρ2 body (turnΦ Inv i Φ)) (hd : ∀ ρ1, Inv ds.length ρ1 → Φ (.nx ρ1)) (hs : ∀ x, foldedSetIterable iter X.env x = pure x := by intro _; rfl) : JS X W ρ (.For tg iter body [] pos) Φ := by
  refine PS.imp (ps_for po hc (pi_list hi) (pg_any (tg := tg)) (pss_any (W := W)) hs) fun D σ H ⟨F, G0, G, a, q⟩ => ⟨F, G0, G, a, fun v G1 H1 g1 hh1 a1 r1 => ?_⟩
  cases r1 with
  | @lst p xs _ e r =>
    refine ⟨p, rfl, ⟨xs, .of (a1.gh _ _ e)⟩, for_list (K := X.K) (a := p) (xs := xs) (fun i σ' H' => ∃ ρ' G', Inv i ρ' ∧ Ex G1 G' ∧ At X.K F G0 ρ' G' σ' H') ⟨ρ, G1, h0, Ex.rf G1, a1⟩ (fun i σ' H' _ ⟨ρ', G', _, g', a'⟩ => .of (a'.gh _ _ (g' _ _ e))) (fun i x σ' H' hx ⟨ρ', G', I, g', a'⟩ => ?_) (fun σ' H' ⟨ρ', G', I, g', a'⟩ => ?_)⟩
    · obtain ⟨d, hd', rd⟩ := r.got hx
      obtain ⟨ρ2, hg, hb⟩ := turn i d ρ' hd' I
      exact turn_ok a' g' (rd.up g') hg hb fun o ho => ((q o ho).grow g1)
    · rw [r.len] at I
      exact q _ (hd ρ' I) σ' G' H' (g1.tr g') a'
theorem js_forF {tg iter : Expr} {body : List Stmt} {ds : List D} {pos : Pos} (po : PassesOwn (model X.prog X.w) X.A X.env X.xe) (hc : X.calm = true) (hi : JE X W ρ iter (.ok (.fls ds))) (Inv : Nat → List Cell → Prop) (h0 : Inv 0 ρ)
    (turn : ∀ i d ρ1, ds[i]? = some d → Inv i ρ1 → ∃ ρ2, JG X ρ1 tg d ρ2 ∧ JSs X W ρ2 body (turnΦ Inv i Φ)) (hd : ∀ ρ1, Inv ds.length ρ1 → Φ (.nx ρ1)) (hs : ∀ x, foldedSetIterable iter X.env x = pure x := by intro _; rfl) : JS X W ρ (.For tg iter body [] pos) Φ := by
  refine PS.imp (ps_for po hc (pi_list hi) (pg_any (tg := tg)) (pss_any (W := W)) hs) fun D σ H ⟨F, G0, G, a, q⟩ => ⟨F, G0, G, a, fun v G1 H1 g1 hh1 a1 r1 => ?_⟩
  cases r1 with
  | @fls p xs _ e r =>
    refine ⟨p, rfl, ⟨xs, sqL_ex a1.gh e⟩, for_list (K := X.K) (a := p) (xs := xs) (fun i σ' H' => ∃ ρ' G', Inv i ρ' ∧ Ex G1 G' ∧ At X.K F G0 ρ' G' σ' H') ⟨ρ, G1, h0, Ex.rf G1, a1⟩ (fun i σ' H' _ ⟨ρ', G', _, g', a'⟩ => sqL_ex (g'.tr a'.gh) e) (fun i x σ' H' hx ⟨ρ', G', I, g', a'⟩ => ?_) (fun σ' H' ⟨ρ', G', I, g', a'⟩ => ?_)⟩
    · obtain ⟨d, hd', rd⟩ := r.got hx
      obtain ⟨ρ2, hg, hb⟩ := turn i d ρ' hd' I
      exact turn_ok a' g' (rd.up g') hg hb fun o ho => ((q o ho).grow g1)
    · rw [r.len] at I
      exact q _ (hd ρ' I) σ' G' H' (g1.tr g') a'
theorem js_forT {tg iter : Expr} {body : List Stmt} {ds : List D} {pos : Pos} (po : PassesOwn (model X.prog X.w) X.A X.env X.xe) (hc : X.calm = true) (hi : JE X W ρ iter (.ok (.tup ds))) (Inv : Nat → List Cell → Prop) (h0 : Inv 0 ρ)
    (turn : ∀ i d ρ1, ds[i]? = some d → Inv i ρ1 → ∃ ρ2, JG X ρ1 tg d ρ2 ∧ JSs X W ρ2 body (turnΦ Inv i Φ)) (hd : ∀ ρ1, Inv ds.length ρ1 → Φ (.nx ρ1)) (hs : ∀ x, foldedSetIterable iter X.env x = pure x := by intro _; rfl) : JS X W ρ (.For tg iter body [] pos) Φ := by
  refine PS.imp (ps_for po hc (pi_tup hi) (pg_any (tg := tg)) (pss_any (W := W)) hs) fun D σ H ⟨F, G0, G, a, q⟩ => ⟨F, G0, G, a, fun v G1 H1 g1 hh1 a1 r1 => ?_⟩
  cases r1 with
  | @tup p xs _ e r =>
    refine ⟨p, rfl, ⟨xs, sqT_ex a1.gh e⟩, for_tup (K := X.K) (a := p) (xs := xs) (fun i σ' H' => ∃ ρ' G', Inv i ρ' ∧ Ex G1 G' ∧ At X.K F G0 ρ' G' σ' H') ⟨ρ, G1, h0, Ex.rf G1, a1⟩ (fun i σ' H' _ ⟨ρ', G', _, g', a'⟩ => sqT_ex (g'.tr a'.gh) e) (fun i x σ' H' hx ⟨ρ', G', I, g', a'⟩ => ?_) (fun σ' H' ⟨ρ', G', I, g', a'⟩ => ?_)⟩
    · obtain ⟨d, hd', rd⟩ := r.got hx
      obtain ⟨ρ2, hg, hb⟩ := turn i d ρ' hd' I
      exact turn_ok a' g' (rd.up g') hg hb fun o ho => ((q o ho).grow g1)
    · rw [r.len] at I
      exact q _ (hd ρ' I) σ' G' H' (g1.tr g') a'
/-- for k in range(n) -/
theorem js_forR1 {tg a : Expr} {body : List Stmt} {n : Int} {p pos rpos : Pos} (po : PassesOwn (model X.prog X.w) X.A X.env X.xe) (hc : X.calm = true) (hg : Gl X "range") (hm : X.mg "range" = none) (hi : JE X W ρ a (.ok (.int n))) (hn : n < 2 ^ 62 ∧ -(2 ^ 62) ≤ n) (Inv : Nat → List Cell → Prop) (h0 : Inv 0 ρ)
    (turn : ∀ (i : Nat) ρ1, (i : Int) < n → Inv i ρ1 → ∃ ρ2, JG X ρ1 tg (.int i) ρ2 ∧ JSs X W ρ2 body (turnΦ Inv i Φ)) (hd : ∀ ρ1, Inv n.toNat ρ1 → Φ (.nx ρ1)) (hs : ∀ x, foldedSetIterable (.Call (.Name "range" p) [a] [] rpos) X.env x = pure x := by intro _; rfl)
    (hse : starEach [a] X.env = [(false, eval a X.env)] := by rfl) : JS X W ρ (.For tg (.Call (.Name "range" p) [a] [] rpos) body [] pos) Φ := by
  refine PS.imp (ps_for po hc (pi_range1 hg hm (ja_cons hi ja_nil hse) hse) (pg_any (tg := tg)) (pss_any (W := W)) hs) fun D σ H ⟨F, G0, G, a, q⟩ => ⟨F, G0, G, a, fun vs G1 H1 g1 hh1 a1 r1 => ?_⟩
  cases r1 with
  | cons r1 r2 =>
    cases r2
    cases r1
    refine ⟨n, rfl, hn.2, hn.1, for_range (lo := 0) (n := n.toNat) (fun i σ' H' => ∃ ρ' G', Inv i ρ' ∧ Ex G1 G' ∧ At X.K F G0 ρ' G' σ' H') ⟨ρ, G1, h0, Ex.rf G1, a1⟩ (fun i σ' H' hx ⟨ρ', G', I, g', a'⟩ => ?_) (fun σ' H' ⟨ρ', G', I, g', a'⟩ => ?_)⟩
    · obtain ⟨ρ2, hg, hb⟩ := turn i ρ' (by omega) I
      have e : (0 : Int) + (i : Int) = (i : Int) := Int.zero_add _
      rw [e]
      exact turn_ok a' g' (.int _) hg hb fun o ho => ((q o ho).grow g1)
    · exact q _ (hd ρ' I) σ' G' H' (g1.tr g') a'
/-- for k in range(m, n) -/
theorem js_forR2 {tg a b : Expr} {body : List Stmt} {m n : Int} {p pos rpos : Pos} (po : PassesOwn (model X.prog X.w) X.A X.env X.xe) (hc : X.calm = true) (hg : Gl X "range") (hm : X.mg "range" = none) (hi : JE X W ρ a (.ok (.int m))) (hj : JE X W ρ b (.ok (.int n))) (hn : n < 2 ^ 62 ∧ -(2 ^ 62) ≤ n ∧ m < 2 ^ 62 ∧ -(2 ^ 62) ≤ m) (Inv : Nat → List Cell → Prop) (h0 : Inv 0 ρ)
    (turn : ∀ (i : Nat) ρ1, m + (i : Int) < n → Inv i ρ1 → ∃ ρ2, JG X ρ1 tg (.int (m + i)) ρ2 ∧ JSs X W ρ2 body (turnΦ Inv i Φ)) (hd : ∀ ρ1, Inv (n - m).toNat ρ1 → Φ (.nx ρ1)) (hs : ∀ x, foldedSetIterable (.Call (.Name "range" p) [a, b] [] rpos) X.env x = pure x := by intro _; rfl)
    (hse : starEach [a, b] X.env = [(false, eval a X.env), (false, eval b X.env)] := by rfl) (hse2 : starEach [b] X.env = [(false, eval b X.env)] := by rfl) : JS X W ρ (.For tg (.Call (.Name "range" p) [a, b] [] rpos) body [] pos) Φ := by
  refine PS.imp (ps_for po hc (pi_range2 hg hm (ja_cons hi (ja_cons hj ja_nil hse2) (by rw [hse, hse2])) hse hse2) (pg_any (tg := tg)) (pss_any (W := W)) hs) fun D σ H ⟨F, G0, G, a, q⟩ => ⟨F, G0, G, a, fun vs G1 H1 g1 hh1 a1 r1 => ?_⟩
  cases r1 with
  | cons r1 r2 =>
    cases r2 with
    | cons r2 r3 =>
      cases r3
      cases r1
      cases r2
      refine ⟨m, n, rfl, ⟨hn.2.2.2, hn.2.2.1, hn.2.1, hn.1⟩, for_range (lo := m) (n := (n - m).toNat) (fun i σ' H' => ∃ ρ' G', Inv i ρ' ∧ Ex G1 G' ∧ At X.K F G0 ρ' G' σ' H') ⟨ρ, G1, h0, Ex.rf G1, a1⟩ (fun i σ' H' hx ⟨ρ', G', I, g', a'⟩ => ?_) (fun σ' H' ⟨ρ', G', I, g', a'⟩ => ?_)⟩
      · obtain ⟨ρ2, hg, hb⟩ := turn i ρ' (by omega) I
        exact turn_ok a' g' (.int _) hg hb fun o ho => ((q o ho).grow g1)
      · exact q _ (hd ρ' I) σ' G' H' (g1.tr g') a'

/-! ### raise, try -/
theorem js_raise {e : Expr} {c : Str} {pos : Pos} (tk : Takes X W) (hc : X.calm = true) (h : PMk X e (fun _ H Q => Q (.ref (exA X.mg c)) none H)) (k : Φ (.er c ρ)) : JS X W ρ (.Raise (some e) none pos) Φ :=
  PS.imp (ps_raise hc tk h) fun D σ H ⟨F, G0, G, a, q⟩ => q _ k σ G H (Ex.rf G) a
/-- what is known of an own class of errors without methods -/
structure ExOk (K : PySem.W.Frag) (mg : Str → Option Value) (c : Str) : Prop where
  g : mg c = some (.ref (exA mg c))
  ei : PySem.W.excIn K (exA mg c) [.type "ValueError", .type "Exception", .type "BaseException", .type "object"] "ValueError.__new__" = true
  kp : PySem.W.keepIn K (.ref (exA mg c)) = true
  su : PySem.W.subIn K (.ref (exA mg c)) (.type "BaseException") = some true
  ty : PySem.W.typeIn K (.ref (exA mg c)) = some (.type "type")
theorem js_raiseX {x m : Str} {j : Nat} {p p2 cpos pos : Pos} (tk : Takes X W) (hc : X.calm = true) (ex : ExOk X.K X.mg x) (hg : Gl X x) (k : Φ (.er x ρ)) (hdb : (x == ("__debug__" : Str)) = false := by decide) : JS X W ρ (.Raise (some (.Call (.Name x p) [.Constant (.str m) j p2] [] cpos)) none pos) Φ :=
  js_raise tk hc (pmk_own PySem.F.excBase_ValueError ex.ei ex.g ex.kp (raises_own ex.su ex.ty) hg hdb) k
/-- a suite behind except X -/
abbrev W0 : WX := fun _ _ _ _ => False
def suiteS (X : Cx) (suite : List Stmt) : Addr → Value → Option Addr → TS := fun a cls d D σ H => ∃ ρ' Φ', (∀ oe pn, Zc cls d oe → (∃ vs, oe.data = .fields vs) → JSs (X.suite a ((a, oe) :: pn)) W0 ρ' suite Φ') ∧ cS X.K X.mg ρ' Φ' W0 D σ H
/-- what comes of a try: the body's outcome, or the suite's -/
def noEr (Φ : Out → Prop) : Out → Prop
  | .er _ _ => False
  | .nx ρ' => Φ (.nx ρ')
  | .bk ρ' => Φ (.bk ρ')
  | .ct ρ' => Φ (.ct ρ')
  | .rt r => Φ (.rt r)
def tryΦ (X : Cx) (W : WX) (c : Value) (suite : List Stmt) (Φ : Out → Prop) : Out → Prop
  | .er e ρ' => ∃ b, PySem.W.exmOne X.K (.ref (exA X.mg e)) c = some b ∧ (b = true → ∀ a oe pn, Zc (.ref (exA X.mg e)) none oe → (∃ vs, oe.data = .fields vs) → JSs (X.suite a ((a, oe) :: pn)) W0 ρ' suite (noEr Φ)) ∧ (b = false → Φ (.er e ρ'))
  | o => Φ o
theorem js_try {x : Str} {c : Value} {body suite : List Stmt} {b₀ : Stmt} {np pos pos' : Pos} (tk : Takes X W) (hs : X.stack = X.env :: X.outer) (hf : X.env.frame = some X.env.locals) (hc : Names X x c)
    (hb : ∀ (W' : WX) (pn : List (Addr × Obj)) (xe : Value → Shared → Prop), Takes (X.tr pn xe) W' → PassesOwn (model X.prog X.w) X.A X.env xe → JSs (X.tr pn xe) W' ρ body (tryΦ X W c (b₀ :: suite) Φ)) :
    JS X W ρ (.Try body [.ExceptHandler (some (.Name x np)) none (b₀ :: suite) pos'] [] [] pos) Φ := by
  refine PS.imp (ps_try_only (tb := fun W' => cS X.K X.mg ρ (tryΦ X W c (b₀ :: suite) Φ) W') (ts := suiteS X (b₀ :: suite)) (Wout := W) hs hf hc tk (fun W' pn xe t p => hb W' pn xe t p) (fun a oe cls d pn hz hv => ⟨fun pins s σ H D I ⟨ρ', Φ', h, q⟩ => (h oe pn hz hv).run pins s σ H D I q⟩)) fun D σ H ⟨F, G0, G, a, q⟩ => ⟨F, G0, G, a, fun o ho => ?_⟩
  cases o with
  | nx ρ' => exact q (.nx ρ') ho
  | bk ρ' => exact q (.bk ρ') ho
  | ct ρ' => exact q (.ct ρ') ho
  | rt r =>
    have z := q (.rt r) ho
    cases r <;> exact z
  | er e ρ' =>
    intro σ' G' H' g a'
    obtain ⟨b, hb1, hyes, hno⟩ := ho
    refine ⟨b, hb1, fun hb2 ad had => ⟨ρ', noEr Φ, fun oe pn hz hv => hyes hb2 ad oe pn hz hv, F, G0, G', a', fun o ho => ?_⟩, fun hb2 => q _ (hno hb2) σ' G' H' g a'⟩
    cases o with
    | er e2 ρ2 => exact ho.elim
    | nx ρ2 => exact ((q (.nx ρ2) ho).grow g).heap (H1 := H')
    | bk ρ2 => exact ((q (.bk ρ2) ho).grow g).heap (H1 := H')
    | ct ρ2 => exact ((q (.ct ρ2) ho).grow g).heap (H1 := H')
    | rt r =>
      have z := ((q (.rt r) ho).grow g).heap (H1 := H')
      cases r <;> exact z
end
end DL

namespace DL
open PySem PySem.Spec PyProof.Rows L2

/-! ### a def of the module -/
def Done (r : Res) : Out → Prop
  | .rt (.ok d) => r = .ok d
  | .rt (.nl ds) => r = .nl ds ∨ r = .ok (.lst ds)
  | .rt (.er _) => False
  | .nx _ => r = .ok .non
  | .er c _ => r = .er c
  | .bk _ => False
  | .ct _ => False
def init (N : List Str) (ds : List D) : List Cell := ds.map .fz ++ List.replicate (N.length - ds.length) .un
theorem at_start {K : PySem.W.Frag} {G H : Hp} {N : List Str} {vs : List V} {ds : List D} (e : Ex G H) (r : RpA K G vs ds) : At K H G (init N ds) G (L2.start N vs) H where
  fh := Ex.rf H
  g0 := Ex.rf G
  gh := e
  nw := fun _ _ h => h
  len := by simp [init, L2.start, r.len]
  cell := fun i o c h1 h2 => by
    unfold L2.start at h1
    unfold init at h2
    have hl := r.len
    by_cases hi : i < ds.length
    · rw [List.getElem?_append_left (by simpa [hl] using hi)] at h1
      rw [List.getElem?_append_left (by simpa using hi)] at h2
      rw [List.getElem?_map] at h1 h2
      rw [List.getElem?_eq_getElem hi] at h2
      cases h2
      obtain ⟨v, e1, e2⟩ := r.get (List.getElem?_eq_getElem hi)
      rw [e1] at h1
      cases h1
      exact ⟨v, rfl, e2⟩
    · rw [List.getElem?_append_right (by simpa using hi)] at h2
      have := List.mem_of_getElem? h2
      rw [List.mem_replicate] at this
      rw [this.2]
      trivial
  dist := fun i j p c d hij h1 h2 o1 o2 e1 e2 => by
    have : ∀ (k : Nat) (c : Cell), (init N ds)[k]? = some c → c.own = false := fun k c h => by
      have hm := List.mem_of_getElem? h
      unfold init at hm
      rcases List.mem_append.mp hm with h | h
      · obtain ⟨d, _, rfl⟩ := List.mem_map.mp h
        rfl
      · rw [List.mem_replicate] at h
        rw [h.2]
        rfl
    rw [this i c h1] at o1
    cases o1
section
variable {P : Program} {w : World} {K : PySem.W.Frag} {mg : Str → Option Value} {base : Heap}
abbrev cxD (P : Program) (w : World) (K : PySem.W.Frag) (mg : Str → Option Value) (base : Heap) (N : List Str) (qual : Str) (scope : Scope) (f : Addr) (cd : Value) (A : Around) (outer : List Env) (s : Shared) (H : Hp) (E : XK) : Cx :=
  cxOf (L2.CX P w) P w K mg base N qual scope f cd A outer s H E
/-- what a body may lean on -/
structure Bd (X : Cx) (W : WX) (k : Nat) : Prop where
  tk : Takes X W
  po : PassesOwn (model X.prog X.w) X.A X.env X.xe
  hr : Room k X.A
  nd : X.N.Nodup
  hc : X.calm = true
theorem Bd.hu {X : Cx} {W : WX} {k : Nat} (B : Bd X W k) : X.A.units + 64 < cLine := B.hr.units
theorem Bd.hu1 {X : Cx} {W : WX} {k : Nat} (B : Bd X W k) : X.A.units + 1 < cLine := hu_of B.hr
theorem fnd_of {x qual : Str} {st : Stmt} {f : Addr} {fd : FuncData} {N ps : List Str} {k : Nat} {Spec : List D → Res → Prop} (F : Fun K x qual st f fd) (S : FnScope N ps (defScope st)) (len : ∀ ds r, Spec ds r → ds.length = ps.length)
    (body : ∀ (cdv : Value) (A : Around) (outer : List Env) (s : Shared) (H : Hp) (E : XK) (ds : List D) (r : Res), Bd (cxD P w K mg base N qual (defScope st) f cdv A outer s H E) (fun cls d _ H' => E cls d H') k → Spec ds r →
      JSs (cxD P w K mg base N qual (defScope st) f cdv A outer s H E) (fun cls d _ H' => E cls d H') (init N ds) (defBody st) (Done r)) : FnD P w K mg base (k + 1) f fd ps Spec := by
  refine F.okX S (fun vs H Q E h => ?_) (fun cdv A outer s H vs Q E hr h => ?_)
  · obtain ⟨ds, r, G, hs, _, ra, _⟩ := h
    rw [ra.len, len ds r hs]
  · obtain ⟨ds, r, G, hs, gh, ra, q⟩ := h
    refine ⟨_, body cdv A outer s H E ds r ⟨takes_of rfl rfl rfl rfl, passes_of rfl, hr, S.nd, rfl⟩ hs, H, G, G, at_start gh ra, fun o ho => ?_⟩
    cases o with
    | nx ρ' =>
      have e : r = .ok .non := ho
      subst e
      exact fun σ' G' H' g a' => q .non G' H' g a'.gh a'.fh a'.nw .non
    | bk ρ' => exact ho.elim
    | ct ρ' => exact ho.elim
    | rt r' =>
      cases r' with
      | ok d =>
        have e : r = .ok d := ho
        subst e
        exact fun σ' ρ' v G' H' g a' rv => q v G' H' g a'.gh a'.fh a'.nw rv
      | nl es =>
        rcases ho with e | e
        · subst e
          exact fun σ' ρ' p xs G' H' g a' n1 n2 z rv => q p xs G' H' g a'.gh a'.fh a'.nw n1 n2 z rv
        · subst e
          exact fun σ' ρ' p xs G' H' g a' n1 n2 z rv => q (.ref p) (upd G' p (.lst xs)) H' (g.tr (Ex.new n2)) (fun b u hb => by
            by_cases hq : b = p
            · subst hq; rw [upd_same] at hb; cases hb; exact z
            · rw [upd_ne hq] at hb; exact a'.gh b u hb) a'.fh (fun b h1 h2 => by
            have ne : b ≠ p := fun q => h1 (by rw [q]; exact n1)
            rw [upd_ne ne]
            exact a'.nw b h1 h2) (.lst upd_same (rv.up (Ex.new n2)))
      | er c => exact ho.elim
    | er c ρ' =>
      have e : r = .er c := ho
      subst e
      exact fun σ' G' H' g a' => q H' a'.fh
theorem defOk {x qual : Str} {st : Stmt} {f : Addr} {fd : FuncData} {ps : List Str} {k : Nat} {Spec : List D → Res → Prop} (F : Fun K x qual st f fd) (hm : mg x = some (.ref f)) (hb : Binds K fd ps []) (h : FnD P w K mg base k f fd ps Spec) : DefOk P w K mg base k x Spec :=
  ⟨f, fd, ps, h, hm, F.kp, hb⟩
end

/-! ### operators -/
section
variable {X : Cx}
theorem ow_I {f : Value → Value → Sem Value} {C : Int → Int → Prop} {g : Int → Int → V} {i j : Int} {d : D} (o : OpR X f (rI C g)) (hc : C i j) (fl : d.flat = true) (e : ∀ H, Rp X.K H (g i j) d) : OpW X f (.int i) (.int j) d :=
  ⟨_, o, fl, fun H v u Q r1 r2 k => by cases r1; cases r2; exact ⟨i, j, rfl, rfl, hc, k _ (e H)⟩⟩
theorem ow_I0 {f : Value → Value → Sem Value} {g : Int → Int → V} {i j : Int} {d : D} (o : OpR X f (rI0 g)) (fl : d.flat = true) (e : ∀ H, Rp X.K H (g i j) d) : OpW X f (.int i) (.int j) d :=
  ⟨_, o, fl, fun H v u Q r1 r2 k => by cases r1; cases r2; exact ⟨i, j, rfl, rfl, k _ (e H)⟩⟩
theorem ow_add {i j : Int} : OpW X (binaryOp .Add) (.int i) (.int j) (.int (i + j)) := ow_I0 op_add rfl fun _ => .int _
theorem ow_sub {i j : Int} : OpW X (binaryOp .Sub) (.int i) (.int j) (.int (i - j)) := ow_I0 op_sub rfl fun _ => .int _
theorem ow_mul {i j : Int} (h : CMulW i j) : OpW X (binaryOp .Mult) (.int i) (.int j) (.int (i * j)) := ow_I op_mulW h rfl fun _ => .int _
/-- // by any divisor but 0 below 2 ^ 9000 -/
def CDivWN (_ j : Int) : Prop := j ≠ 0 ∧ j.natAbs.log2 < 9000
theorem op_fdivWN : OpR X (binaryOp .FloorDiv) (rI CDivWN fun i j => .int (i.fdiv j)) := opI fun i j _ _ _ _ _ hc q => floordiv_int hc.1 q (.inl (PyProof.noPylong_of_log2 hc.2))
theorem ow_fdivN {i j : Int} (h : CDivWN i j) : OpW X (binaryOp .FloorDiv) (.int i) (.int j) (.int (i.fdiv j)) := ow_I op_fdivWN h rfl fun _ => .int _
theorem ow_fdiv {i j : Int} (h : CDivW i j) : OpW X (binaryOp .FloorDiv) (.int i) (.int j) (.int (i / j)) := ow_I op_fdivW h rfl fun _ => .int _
theorem ow_modN {i j : Int} (h : j ≠ 0) : OpW X (binaryOp .Mod) (.int i) (.int j) (.int (i.fmod j)) := ow_I op_modN h rfl fun _ => .int _
theorem ow_mod {i j : Int} (h : 0 < j) : OpW X (binaryOp .Mod) (.int i) (.int j) (.int (i % j)) := ow_I op_mod h rfl fun _ => .int _
theorem ow_lt {i j : Int} : OpW X (compareOp .Lt) (.int i) (.int j) (.bl (decide (i < j))) := ow_I0 op_lt rfl fun _ => .bl _
theorem ow_le {i j : Int} : OpW X (compareOp .LtE) (.int i) (.int j) (.bl (decide (i ≤ j))) := ow_I0 op_le rfl fun _ => .bl _
theorem ow_gt {i j : Int} : OpW X (compareOp .Gt) (.int i) (.int j) (.bl (decide (j < i))) := ow_I0 op_gt rfl fun _ => .bl _
theorem ow_ge {i j : Int} : OpW X (compareOp .GtE) (.int i) (.int j) (.bl (decide (j ≤ i))) := ow_I0 op_ge rfl fun _ => .bl _
theorem ow_eqI {i j : Int} : OpW X (compareOp .Eq) (.int i) (.int j) (.bl (decide (i = j))) := ⟨_, op_eq, rfl, fun H v u Q r1 r2 k => by
  cases r1; cases r2
  refine ⟨rfl, k _ ?_⟩
  rw [dec_int, Bool.beq_eq_decide_eq]
  exact .bl _⟩
theorem ow_neI {i j : Int} : OpW X (compareOp .NotEq) (.int i) (.int j) (.bl (!decide (i = j))) := ⟨_, op_ne, rfl, fun H v u Q r1 r2 k => by
  cases r1; cases r2
  refine ⟨rfl, k _ ?_⟩
  rw [dec_int, Bool.beq_eq_decide_eq]
  exact .bl _⟩
theorem ow_eqS {i j : Str} : OpW X (compareOp .Eq) (.str i) (.str j) (.bl (decide (i = j))) := ⟨_, op_eq, rfl, fun H v u Q r1 r2 k => by
  cases r1; cases r2
  refine ⟨rfl, k _ ?_⟩
  rw [dec_str, Bool.beq_eq_decide_eq]
  exact .bl _⟩
theorem ow_neS {i j : Str} : OpW X (compareOp .NotEq) (.str i) (.str j) (.bl (!decide (i = j))) := ⟨_, op_ne, rfl, fun H v u Q r1 r2 k => by
  cases r1; cases r2
  refine ⟨rfl, k _ ?_⟩
  rw [dec_str, Bool.beq_eq_decide_eq]
  exact .bl _⟩
theorem ow_addS {i j : Str} (h : i.length + j.length ≤ sizeLine) : OpW X (binaryOp .Add) (.str i) (.str j) (.str (i ++ j)) := ⟨_, op_add_str, rfl, fun H v u Q r1 r2 k => by
  cases r1; cases r2
  exact ⟨i, j, rfl, rfl, h, k _ (.str _)⟩⟩
theorem uw_neg {i : Int} : UnW X (unaryOp .USub) (.int i) (.int (-i)) := ⟨_, un_neg, rfl, fun H v Q r k => by cases r; exact ⟨i, rfl, k _ (.int _)⟩⟩
def D.isN : D → Bool
  | .non => true
  | _ => false
theorem Rp.isN {K : PySem.W.Frag} {G : Hp} {v : V} {d : D} (r : Rp K G v d) : decide (v = .non) = d.isN := by cases r <;> first | rfl | exact decide_eq_false (fun z => by cases z)
theorem ow_is {d : D} : OpW X (compareOp .Is) d .non (.bl d.isN) := ⟨_, op_isN, rfl, fun H v u Q r1 r2 k => by
  cases r2
  exact ⟨rfl, k _ (by rw [r1.isN]; exact .bl _)⟩⟩
theorem ow_isnt {d : D} : OpW X (compareOp .IsNot) d .non (.bl (!d.isN)) := ⟨_, op_notN, rfl, fun H v u Q r1 r2 k => by
  cases r2
  exact ⟨rfl, k _ (by rw [r1.isN]; exact .bl _)⟩⟩

/-! ### == of data -/
mutual
def D.py : D → PyData
  | .non => .none
  | .bl b => .bool b
  | .int i => .int i
  | .str x => .str x
  | .lst l => .list (D.pys l)
  | .fls l => .list (D.pys l)
  | .tup l => .tuple (D.pys l)
  | .ty _ | .xr _ | .dk _ _ | .dt _ _ | .ins _ _ _ => .none
def D.pys : List D → List PyData
  | [] => []
  | d :: r => d.py :: D.pys r
end
mutual
def D.pl : D → Bool
  | .non | .bl _ | .int _ | .str _ => true
  | .lst l | .fls l | .tup l => D.pla l
  | _ => false
def D.pla : List D → Bool
  | [] => true
  | d :: r => d.pl && D.pla r
end
mutual
theorem Rp.dp {K : PySem.W.Frag} {G : Hp} : ∀ (d : D) (v : V), d.pl = true → Rp K G v d → Dp K G v d.py
  | .non, _, _, h => by cases h; exact .non
  | .bl _, _, _, h => by cases h; exact .bl _
  | .int _, _, _, h => by cases h; exact .int _
  | .str _, _, _, h => by cases h; exact .str _
  | .ty _, _, p, _ => by cases p
  | .xr _, _, p, _ => by cases p
  | .dk _ _, _, p, _ => by cases p
  | .dt _ _, _, p, _ => by cases p
  | .ins _ _ _, _, p, _ => by cases p
  | .lst l, _, p, h => by cases h with | lst a b => exact .lst (.of a) (RpA.dp l _ p b)
  | .fls l, _, p, h => by cases h with | fls a b => exact .lst a (RpA.dp l _ p b)
  | .tup l, _, p, h => by cases h with | tup a b => exact .tup a (RpA.dp l _ p b)
theorem RpA.dp {K : PySem.W.Frag} {G : Hp} : ∀ (ds : List D) (vs : List V), D.pla ds = true → RpA K G vs ds → DpAll K G vs (D.pys ds)
  | [], _, _, h => by cases h; exact .nil
  | d :: ds, _, p, h => by
    cases h with
    | cons a b =>
      have p' : (d.pl && D.pla ds) = true := p
      rw [Bool.and_eq_true] at p'
      exact .cons (Rp.dp d _ p'.1 a) (RpA.dp ds _ p'.2 b)
end
def D.eqv (d e : D) : Bool := PyData.eqv d.py e.py
/-- what may be compared -/
def D.cmp (d : D) : Bool := d.pl && SeqAt.shaped d.py
theorem ow_eq {d e : D} (hu : X.A.units + 64 < cLine) (h1 : d.cmp = true) (h2 : e.cmp = true) : OpW X (compareOp .Eq) d e (.bl (d.eqv e)) := ⟨_, op_eqD hu, rfl, fun H v u Q r1 r2 k => by
  unfold D.cmp at h1 h2
  rw [Bool.and_eq_true] at h1 h2
  exact ⟨_, _, r1.dp _ _ h1.1, r2.dp _ _ h2.1, h1.2, h2.2, k _ (.bl _)⟩⟩
theorem ow_ne {d e : D} (hu : X.A.units + 64 < cLine) (h1 : d.cmp = true) (h2 : e.cmp = true) : OpW X (compareOp .NotEq) d e (.bl (!d.eqv e)) := ⟨_, op_neD hu, rfl, fun H v u Q r1 r2 k => by
  unfold D.cmp at h1 h2
  rw [Bool.and_eq_true] at h1 h2
  exact ⟨_, _, r1.dp _ _ h1.1, r2.dp _ _ h2.1, h1.2, h2.2, k _ (.bl _)⟩⟩
theorem ow_in {d : D} {es : List D} (hu : X.A.units + 65 < cLine) (h1 : d.cmp = true) (h2 : (D.lst es).cmp = true) : OpW X (compareOp .In) d (.lst es) (.bl (es.any fun z => z.eqv d)) := ⟨_, op_inD hu, rfl, fun H v u Q r1 r2 k => by
  unfold D.cmp at h1 h2
  rw [Bool.and_eq_true] at h1 h2
  refine ⟨_, D.pys es, r1.dp _ _ h1.1, r2.dp _ _ h2.1, h1.2, h2.2, ?_⟩
  have e : ∀ l : List D, ((D.pys l).any fun z => PyData.eqv z d.py) = l.any fun z => z.eqv d := fun l => by
    induction l with
    | nil => rfl
    | cons x r ih =>
      show (PyData.eqv x.py d.py || (D.pys r).any fun z => PyData.eqv z d.py) = (x.eqv d || r.any fun z => z.eqv d)
      rw [ih]
      rfl
  rw [e]
  exact k _ (.bl _)⟩
theorem ow_notin {d : D} {es : List D} (hu : X.A.units + 65 < cLine) (h1 : d.cmp = true) (h2 : (D.lst es).cmp = true) : OpW X (compareOp .NotIn) d (.lst es) (.bl (!es.any fun z => z.eqv d)) := ⟨_, op_notInD hu, rfl, fun H v u Q r1 r2 k => by
  unfold D.cmp at h1 h2
  rw [Bool.and_eq_true] at h1 h2
  refine ⟨_, D.pys es, r1.dp _ _ h1.1, r2.dp _ _ h2.1, h1.2, h2.2, ?_⟩
  have e : ∀ l : List D, ((D.pys l).any fun z => PyData.eqv z d.py) = l.any fun z => z.eqv d := fun l => by
    induction l with
    | nil => rfl
    | cons x r ih =>
      show (PyData.eqv x.py d.py || (D.pys r).any fun z => PyData.eqv z d.py) = (x.eqv d || r.any fun z => z.eqv d)
      rw [ih]
      rfl
  rw [e]
  exact k _ (.bl _)⟩

/-! ### built-in calls -/
theorem RpA.one {K : PySem.W.Frag} {H : Hp} {vs : List V} {d : D} (r : RpA K H vs [d]) : ∃ v, vs = [v] ∧ Rp K H v d := by
  cases r with
  | cons a b => cases b; exact ⟨_, rfl, a⟩
theorem RpA.two {K : PySem.W.Frag} {H : Hp} {vs : List V} {d e : D} (r : RpA K H vs [d, e]) : ∃ v u, vs = [v, u] ∧ Rp K H v d ∧ Rp K H u e := by
  cases r with
  | cons a b => cases b with | cons b c => cases c; exact ⟨_, _, rfl, a, b⟩
theorem cw_lenL {ds : List D} : CallW X (.builtin "len") [.lst ds] (.int ds.length) := ⟨_, call_len_seq, rfl, fun H vs Q r0 k => by
  obtain ⟨v, rfl, r⟩ := r0.one
  cases r with
  | lst a b => exact ⟨_, _, rfl, .inl (.of a), by rw [b.len]; exact k _ (.int _)⟩⟩
theorem cw_lenF {ds : List D} : CallW X (.builtin "len") [.fls ds] (.int ds.length) := ⟨_, call_len_seq, rfl, fun H vs Q r0 k => by
  obtain ⟨v, rfl, r⟩ := r0.one
  cases r with
  | fls a b => exact ⟨_, _, rfl, .inl a, by rw [b.len]; exact k _ (.int _)⟩⟩
theorem cw_lenT {ds : List D} : CallW X (.builtin "len") [.tup ds] (.int ds.length) := ⟨_, call_len_seq, rfl, fun H vs Q r0 k => by
  obtain ⟨v, rfl, r⟩ := r0.one
  cases r with
  | tup a b => exact ⟨_, _, rfl, .inr a, by rw [b.len]; exact k _ (.int _)⟩⟩
theorem cw_lenS {z : Str} (h : z.length ≤ sizeLine) : CallW X (.builtin "len") [.str z] (.int z.length) := ⟨_, call_len_str, rfl, fun H vs Q r0 k => by
  obtain ⟨v, rfl, r⟩ := r0.one
  cases r
  exact ⟨z, rfl, h, k _ (.int _)⟩⟩
theorem cw_abs {i : Int} : CallW X (.builtin "abs") [.int i] (.int i.natAbs) := ⟨_, call_abs, rfl, fun H vs Q r0 k => by
  obtain ⟨v, rfl, r⟩ := r0.one
  cases r
  refine ⟨i, rfl, ?_⟩
  have e : (if i < 0 then -i else i) = (i.natAbs : Int) := by split <;> omega
  rw [e]
  exact k _ (.int _)⟩
theorem cw_intI {i : Int} : CallW X (.type "int") [.int i] (.int i) := ⟨_, call_int1, rfl, fun H vs Q r0 k => by
  obtain ⟨v, rfl, r⟩ := r0.one
  cases r
  exact .inl ⟨i, rfl, k _ (.int _)⟩⟩
theorem cw_intB {b : Bool} : CallW X (.type "int") [.bl b] (.int (if b then 1 else 0)) := ⟨_, call_int1, rfl, fun H vs Q r0 k => by
  obtain ⟨v, rfl, r⟩ := r0.one
  cases r
  exact .inr ⟨b, rfl, k _ (.int _)⟩⟩
theorem cw_strI {i : Int} (h : i.natAbs.log2 < 1920) : CallW X (.type "str") [.int i] (.str (toString i)) := ⟨_, call_str_int, rfl, fun H vs Q r0 k => by
  obtain ⟨v, rfl, r⟩ := r0.one
  cases r
  exact ⟨i, rfl, h, k _ (.str _)⟩⟩
theorem cw_gcd {a b : Int} : CallW X (.builtin "math.gcd") [.int a, .int b] (.int ((Nat.gcd a.natAbs b.natAbs : Nat) : Int)) := ⟨_, cr_gcd, rfl, fun H vs Q r k => by
  obtain ⟨v, u, rfl, r1, r2⟩ := r.two
  cases r1; cases r2
  exact ⟨a, b, rfl, k _ (.int _)⟩⟩
def D.tyN : D → String
  | .non => "NoneType"
  | .bl _ => "bool"
  | .int _ => "int"
  | .str _ => "str"
  | .lst _ | .fls _ => "list"
  | .tup _ => "tuple"
  | .dk _ _ | .dt _ _ => "dict"
  | _ => "?"
theorem Rp.tyx {K : PySem.W.Frag} {H : Hp} {v : V} {d : D} (r : Rp K H v d) (h : d.pl = true) : TyX K H v (.type d.tyN) := by
  cases r with
  | non => exact .base .non
  | bl b => exact .base (.bl b)
  | int i => exact .base (.int i)
  | str x => exact .base (.str x)
  | lst a b => exact .base (.lst a)
  | fls a b =>
    rcases a with (a | ⟨o, a⟩) | ⟨o, its, n, k1, k2, _⟩
    · exact .base (.lst a)
    · exact .base (.frz a)
    · exact .kList k1 k2
  | tup a b =>
    rcases a with (a | ⟨o, a⟩) | ⟨o, its, n, k1, k2, _⟩
    · exact .base (.tup a)
    · exact .fTuple a
    · exact .kTuple k1 k2
  | _ => cases h
theorem cw_isi {d : D} {n : String} {b : Bool} (hp : d.pl = true) (h : kitB d.tyN n = some b) : CallW X (.builtin "isinstance") [d, .ty n] (.bl b) := ⟨_, call_isi, rfl, fun H vs Q r k => by
  obtain ⟨v, u, rfl, r1, r2⟩ := r.two
  cases r2
  exact ⟨v, _, _, _, b, rfl, .ty n, r1.tyx hp, kit_ty h, k _ (.bl _)⟩⟩
theorem cw_sum (hc : X.calm = true) {ns : List Int} : CallW X (.builtin "sum") [.lst (ns.map D.int)] (.int ns.sum) := ⟨_, cr_sum hc, rfl, fun H vs Q r0 k => by
  obtain ⟨v, rfl, r⟩ := r0.one
  cases r with
  | lst a b =>
    have e := b.ofInts
    subst e
    exact ⟨_, ns, rfl, .of a, k _ (.int _)⟩⟩
theorem cw_any (hc : X.calm = true) {ns : List Bool} : CallW X (.builtin "any") [.lst (ns.map D.bl)] (.bl (ns.any id)) := ⟨_, cr_any hc, rfl, fun H vs Q r0 k => by
  obtain ⟨v, rfl, r⟩ := r0.one
  cases r with
  | lst a b =>
    have e := b.ofBls
    subst e
    exact ⟨_, ns, rfl, .of a, k _ (.bl _)⟩⟩
theorem cw_all (hc : X.calm = true) {ns : List Bool} : CallW X (.builtin "all") [.lst (ns.map D.bl)] (.bl (ns.all id)) := ⟨_, cr_all hc, rfl, fun H vs Q r0 k => by
  obtain ⟨v, rfl, r⟩ := r0.one
  cases r with
  | lst a b =>
    have e := b.ofBls
    subst e
    exact ⟨_, ns, rfl, .of a, k _ (.bl _)⟩⟩
end
end DL

namespace DL
open PySem PySem.Spec PyProof.Rows L2

abbrev WD (E : XK) : WX := fun cls d _ H' => E cls d H'
/-! ### forgetting -/
theorem At.forget {K : PySem.W.Frag} {F G0 G H : Hp} {ρ : List Cell} {σ : L2.St} {i : Nat} (a : At K F G0 ρ G σ H) : At K F G0 (ρ.set i .un) G σ H where
  fh := a.fh
  g0 := a.g0
  gh := a.gh
  nw := a.nw
  len := by simp [a.len]
  cell := fun j o c h1 h2 => by
    by_cases hj : i = j
    · subst hj
      have hl : i < ρ.length := by
        have := (List.getElem?_eq_some_iff.mp h2).1
        simpa using this
      rw [List.getElem?_set_self hl] at h2
      cases h2
      trivial
    · rw [List.getElem?_set_ne hj] at h2
      exact a.cell j o c h1 h2
  dist := fun j k p c d hjk h1 h2 o1 o2 e1 e2 => by
    have nj : i ≠ j := fun z => by
      subst z
      have hl : i < ρ.length := by
        have := (List.getElem?_eq_some_iff.mp h1).1
        simpa using this
      rw [List.getElem?_set_self hl] at h1
      cases h1; cases o1
    have nk : i ≠ k := fun z => by
      subst z
      have hl : i < ρ.length := by
        have := (List.getElem?_eq_some_iff.mp h2).1
        simpa using this
      rw [List.getElem?_set_self hl] at h2
      cases h2; cases o2
    rw [List.getElem?_set_ne nj] at h1
    rw [List.getElem?_set_ne nk] at h2
    exact a.dist j k p c d hjk h1 h2 o1 o2 e1 e2
theorem jss_un {X : Cx} {W : WX} {ρ : List Cell} {Φ : Out → Prop} {sts : List Stmt} (i : Nat) (k : JSs X W (ρ.set i .un) sts Φ) : JSs X W ρ sts Φ := PSs.imp k fun D σ H ⟨F, G0, G, a, q⟩ => ⟨F, G0, G, a.forget, q⟩
/-- slots that are not known may hold anything -/
theorem At.swap {K : PySem.W.Frag} {F G0 G H : Hp} {ρ : List Cell} {σ σ2 : L2.St} {vs : List Nat} (a : At K F G0 ρ G σ H) (hv : ∀ j ∈ vs, ρ[j]? = some .un) (hl : σ2.length = σ.length) (he : ∀ i, i ∉ vs → σ2[i]? = σ[i]?) : At K F G0 ρ G σ2 H where
  fh := a.fh
  g0 := a.g0
  gh := a.gh
  nw := a.nw
  len := hl.trans a.len
  cell := fun j o c h1 h2 => by
    by_cases hj : j ∈ vs
    · rw [hv j hj] at h2
      cases h2
      trivial
    · rw [he j hj] at h1
      exact a.cell j o c h1 h2
  dist := fun j k p c d hjk h1 h2 o1 o2 e1 e2 => by
    have nj : j ∉ vs := fun z => by rw [hv j z] at h1; cases h1; cases o1
    have nk : k ∉ vs := fun z => by rw [hv k z] at h2; cases h2; cases o2
    rw [he j nj] at e1
    rw [he k nk] at e2
    exact a.dist j k p c d hjk h1 h2 o1 o2 e1 e2
theorem wipe_off {σ : L2.St} {i : Nat} : ∀ {vs : List Nat}, i ∉ vs → (wipe σ vs)[i]? = σ[i]?
  | [], _ => rfl
  | v :: vs, h => by
    unfold wipe
    rw [List.getElem?_set_ne (fun e => h (by rw [e]; exact List.mem_cons_self))]
    exact wipe_off fun z => h (List.mem_cons_of_mem _ z)
theorem wipe_set {σ : L2.St} {i : Nat} {x : Option V} : ∀ {vs : List Nat}, i ∈ vs → wipe (σ.set i x) vs = wipe σ vs
  | [], h => by cases h
  | v :: vs, h => by
    unfold wipe
    by_cases hi : i ∈ vs
    · rw [wipe_set hi]
    · have e : v = i := by
        rcases List.mem_cons.mp h with z | z
        · exact z.symm
        · exact absurd z hi
      subst e
      have : ∀ {us : List Nat}, v ∉ us → wipe (σ.set v x) us = (wipe σ us).set v x := fun {us} hu => by
        induction us with
        | nil => rfl
        | cons u us ih =>
          unfold wipe
          rw [ih fun z => hu (List.mem_cons_of_mem _ z), List.set_comm _ _ fun e => hu (by rw [e]; exact List.mem_cons_self)]
      rw [this hi, List.set_set]
theorem wipe_wipe {σ : L2.St} {vs : List Nat} : wipe (wipe σ vs) vs = wipe σ vs := by
  have : ∀ us : List Nat, (∀ u ∈ us, u ∈ vs) → wipe (wipe σ us) vs = wipe σ vs := fun us => by
    induction us with
    | nil => intro _; rfl
    | cons u us ih =>
      intro h
      show wipe ((wipe σ us).set u none) vs = wipe σ vs
      rw [wipe_set (h u List.mem_cons_self)]
      exact ih fun z hz => h z (List.mem_cons_of_mem _ hz)
  exact this vs fun _ h => h
theorem At.setUn {K : PySem.W.Frag} {F G0 G H : Hp} {ρ : List Cell} {σ : L2.St} {j : Nat} {c : Cell} (hj : ρ[j]? = some .un) (a : At K F G0 (ρ.set j c) G σ H) : At K F G0 ρ G σ H := by
  have b := a.forget (i := j)
  rw [List.set_set] at b
  have hl : j < ρ.length := (List.getElem?_eq_some_iff.mp hj).1
  have e : ρ.set j .un = ρ := by
    have hv : ρ[j] = .un := by rw [List.getElem?_eq_getElem hl] at hj; exact Option.some.inj hj
    conv => lhs; rw [← hv]
    exact List.set_getElem_self hl
  rw [e] at b
  exact b

/-! ### comprehensions -/
section
variable {X : Cx} {W : WX} {ρ : List Cell}
abbrev cT' (X : Cx) (ρ : List Cell) (b : Bool) : TT := cT X.K ρ b
abbrev JTs (X : Cx) (ρ : List Cell) (ifs : List Expr) (b : Bool) : Prop := PTs X ifs (cT X.K ρ b)
theorem PTs.imp {e : List Expr} {t t' : TT} (h : PTs X e t) (w : ∀ σ H Q, t' σ H Q → t σ H Q) : PTs X e t' := ⟨fun pins s σ H Q I q => h.run pins s σ H Q I (w _ _ _ q)⟩
theorem jts_nil : JTs X ρ [] true := PTs.imp pts_nil fun σ H Q ⟨F, G0, G, a, k⟩ => k G H (Ex.rf G) (Ex.rf H) a
theorem jts_one {c : Expr} {b : Bool} (h : JT X ρ c b) : JTs X ρ [c] b := pts_one h
abbrev Blk (X : Cx) (scope : Scope) (P : Cx → Prop) : Prop := ∀ (s : Shared) (H : Hp) (C : Addr) (cl : List (Str × Addr)) (fp : List Addr), P (X.blk s H scope (compEnvC scope cl C X.env) fp)
def lcT (X : Cx) (scope : Scope) (ifs : List Expr) : TT := fun σ H Q => ∃ ρ' b, Blk X scope (fun Y => JTs Y ρ' ifs b) ∧ cT X.K ρ' b σ H Q
def lcE (X : Cx) (scope : Scope) (elt : Expr) : TE := fun σ H Q => ∃ ρ' d, Blk X scope (fun Y => JE Y W0 ρ' elt (.ok d)) ∧ cE X.K X.mg ρ' (.ok d) W0 σ H Q
theorem lcT_ok {scope : Scope} {ifs : List Expr} : Blk X scope fun Y => PTs Y ifs (lcT X scope ifs) := fun s H C cl fp => ⟨fun pins s' σ H' Q I ⟨ρ', b, h, q⟩ => (h s H C cl fp).run pins s' σ H' Q I q⟩
theorem lcE_ok {scope : Scope} {elt : Expr} : Blk X scope fun Y => PE Y elt (lcE X scope elt) := fun s H C cl fp => ⟨fun pins s' σ H' Q I ⟨ρ', b, h, q⟩ => (h s H C cl fp).run pins s' σ H' Q I q⟩
/-- what holds ahead of a turn: the outer names as they are, the new list at D holds es -/
def LcAt (K : PySem.W.Frag) (F G0 : Hp) (ρ : List Cell) (G1 H1 : Hp) (σ : L2.St) (D0 : Addr) (es : List D) (H : Hp) : Prop :=
  ∃ G xs, Ex G1 G ∧ Ex H1 H ∧ At K F G0 ρ G σ H ∧ G D0 = none ∧ F D0 = none ∧ H D0 = some (.lst xs) ∧ RpA K G xs es
/-- an object joins the frame; leaves it; is written while it is in it -/
theorem At.addF {K : PySem.W.Frag} {F G0 G H : Hp} {ρ : List Cell} {σ : L2.St} {p : Addr} {o : HO} (a : At K F G0 ρ G σ H) (h : H p = some o) (g : G p = none) (nm : ∀ (i : Nat) (es : List D), ρ[i]? = some (Cell.mu es) → σ[i]? ≠ some (some (V.ref p))) : At K (upd F p o) G0 ρ G σ H where
  fh := fun q u e => by
    by_cases hq : q = p
    · subst hq; rw [upd_same] at e; cases e; exact h
    · rw [upd_ne hq] at e; exact a.fh q u e
  g0 := a.g0
  gh := a.gh
  nw := fun q h1 h2 => by
    by_cases hq : q = p
    · subst hq; exact g
    · rw [upd_ne hq] at h1; exact a.nw q h1 h2
  len := a.len
  cell := fun i u c h1 h2 => by
    have q := a.cell i u c h1 h2
    cases c with
    | un => trivial
    | fz d => exact q
    | mu es =>
      obtain ⟨p2, ys, q1, q2, q3, q4, q5⟩ := q
      have ne : p2 ≠ p := fun z => nm i es h2 (by rw [h1, q1, z])
      exact ⟨p2, ys, q1, by rw [upd_ne ne]; exact q2, q3, q4, q5⟩
  dist := a.dist
theorem At.delF {K : PySem.W.Frag} {F G0 G H : Hp} {ρ : List Cell} {σ : L2.St} {p : Addr} {o : HO} (a : At K (upd F p o) G0 ρ G σ H) (f : F p = none) : At K F G0 ρ G σ H where
  fh := fun q u e => a.fh q u (by rw [upd_ne (ne_of_none e f)]; exact e)
  g0 := a.g0
  gh := a.gh
  nw := fun q h1 h2 => a.nw q (by
    have ne : q ≠ p := fun z => h1 (by rw [z]; exact f)
    rw [upd_ne ne]; exact h1) h2
  len := a.len
  cell := fun i u c h1 h2 => by
    have q := a.cell i u c h1 h2
    cases c with
    | un => trivial
    | fz d => exact q
    | mu es =>
      obtain ⟨p2, ys, q1, q2, q3, q4, q5⟩ := q
      have ne : p2 ≠ p := fun z => by rw [z, upd_same] at q2; cases q2
      exact ⟨p2, ys, q1, by rw [upd_ne ne] at q2; exact q2, q3, q4, q5⟩
  dist := a.dist
theorem At.wrF {K : PySem.W.Frag} {F G0 G H : Hp} {ρ : List Cell} {σ : L2.St} {p : Addr} {o o' : HO} (a : At K (upd F p o) G0 ρ G σ H) (f : F p = none) (g : G p = none) : At K F G0 ρ G σ (upd H p o') where
  fh := fun q u e => by
    rw [upd_ne (ne_of_none e f)]
    exact a.fh q u (by rw [upd_ne (ne_of_none e f)]; exact e)
  g0 := a.g0
  gh := fun q u e => by
    rw [upd_ne (ne_of_none e g)]
    exact a.gh q u e
  nw := (a.delF f).nw
  len := a.len
  cell := fun i u c h1 h2 => by
    have q := a.cell i u c h1 h2
    cases c with
    | un => trivial
    | fz d => exact q
    | mu es =>
      obtain ⟨p2, ys, q1, q2, q3, q4, q5⟩ := q
      have ne : p2 ≠ p := fun z => by rw [z, upd_same] at q2; cases q2
      exact ⟨p2, ys, q1, by rw [upd_ne ne] at q2; exact q2, q3, by rw [upd_ne ne]; exact q4, q5⟩
  dist := a.dist
theorem lcAt_turn {F G0 G1 H1 H : Hp} {σ σ2 : L2.St} {D0 : Addr} {es : List D} {scope : Scope} {ifs : List Expr} {elt : Expr} {vs : List Nat} {ρ2 : List Cell} {b : Bool} {d : D} (h : LcAt X.K F G0 ρ G1 H1 σ D0 es H) (hD1 : H1 D0 = none) (hv : ∀ j ∈ vs, ρ[j]? = some .un)
    (hl : σ2.length = σ.length) (he : ∀ i, i ∉ vs → σ2[i]? = σ[i]?) (a2 : ∀ {F G}, Ex G1 G → At X.K F G0 ρ G σ2 H → At X.K F G0 ρ2 G σ2 H) (bk : ∀ {F G H}, At X.K F G0 ρ2 G σ2 H → At X.K F G0 ρ G σ2 H)
    (ht : Blk X scope fun Y => JTs Y ρ2 ifs b) (hel : b = true → Blk X scope fun Y => JE Y W0 ρ2 elt (.ok d)) (hz : es.length < sizeLine) (nm : ∀ (i : Nat) (es : List D), ρ[i]? = some (Cell.mu es) → σ[i]? ≠ some (some (V.ref D0))) :
    lcT X scope ifs σ2 H fun c H3 => if c = true then lcE X scope elt σ2 H3 fun y H4 => ∃ acc, H4 D0 = some (.lst acc) ∧ acc.length < sizeLine ∧ LcAt X.K F G0 ρ G1 H1 σ D0 (if b = true then es ++ [d] else es) (upd H4 D0 (.lst (acc ++ [y]))) else LcAt X.K F G0 ρ G1 H1 σ D0 (if b = true then es ++ [d] else es) H3 := by
  obtain ⟨G, xs, g1, hh1, a, n1, n2, hD, r⟩ := h
  have back : ∀ {F G H}, At X.K F G0 ρ2 G σ2 H → At X.K F G0 ρ G σ H := fun q => (bk q).swap hv hl.symm fun i hi => (he i hi).symm
  have af : At X.K (upd F D0 (.lst xs)) G0 ρ G σ H := a.addF hD n1 nm
  have g00 : G0 D0 = none := a.g0.free n1
  refine ⟨ρ2, b, ht, upd F D0 (.lst xs), G0, G, a2 g1 (af.swap hv hl he), fun G2 H2 g2 hh2 a3 => ?_⟩
  have d2 : G2 D0 = none := a3.nw D0 (by rw [upd_same]; intro z; cases z) g00
  cases b with
  | true =>
    refine iteT ⟨ρ2, d, hel rfl, upd F D0 (.lst xs), G0, G2, a3, fun y G3 H3 g3 hh3 a4 ry => ?_⟩
    have e3 : H3 D0 = some (.lst xs) := a4.fh D0 _ upd_same
    have d3 : G3 D0 = none := a4.nw D0 (by rw [upd_same]; intro z; cases z) g00
    refine ⟨xs, e3, by rw [r.len]; exact hz, G3, xs ++ [y], (g1.tr g2).tr g3, ?_, (back a4).wrF n2 d3, d3, n2, upd_same, ?_⟩
    · exact fun q u e => by
        rw [upd_ne (ne_of_none e hD1)]
        exact hh3 _ _ (hh2 _ _ (hh1 _ _ e))
    · rw [if_pos rfl]
      exact (r.up (g2.tr g3)).app (.cons ry .nil)
  | false =>
    refine iteF ⟨G2, xs, g1.tr g2, hh1.tr hh2, (back a3).delF n2, d2, n2, a3.fh D0 _ upd_same, ?_⟩
    rw [if_neg (by decide)]
    exact r.up g2
/-- a comprehension's target: one name, two names -/
def TgOk (K : PySem.W.Frag) (vs : List Nat) (ρ : List Cell) (g : TG) (d : D) (ρ2 : List Cell) : Prop :=
  ∀ (F G0 G H : Hp) (σ : L2.St) (v : V) (Q : L2.St → Hp → Prop), At K F G0 ρ G σ H → Rp K G v d →
    (∀ σ2, σ2.length = σ.length → (∀ i, i ∉ vs → σ2[i]? = σ[i]?) → wipe σ2 vs = wipe σ vs → (∀ {F' G'}, Ex G G' → At K F' G0 ρ G' σ2 H → At K F' G0 ρ2 G' σ2 H) → (∀ {F' G' H'}, At K F' G0 ρ2 G' σ2 H' → At K F' G0 ρ G' σ2 H') → Q σ2 H) → g v σ H Q
theorem at_setF' {K : PySem.W.Frag} {F G0 G H : Hp} {σ : L2.St} {j : Nat} {v : V} {d : D} (hj : ρ[j]? = some .un) (a : At K F G0 ρ G σ H) (r : Rp K G v d) (e : σ[j]? = some (some v)) : At K F G0 (ρ.set j (.fz d)) G σ H := by
  have b := a.setF (i := j) r
  have hl : j < σ.length := (List.getElem?_eq_some_iff.mp e).1
  have hv : σ[j] = some v := by rw [List.getElem?_eq_getElem hl] at e; exact Option.some.inj e
  rw [← hv, List.set_getElem_self] at b
  exact b
theorem tg_name {K : PySem.W.Frag} {j : Nat} {d : D} (hj : ρ[j]? = some .un) : TgOk K [j] ρ (gName j) d (ρ.set j (.fz d)) := fun F G0 G H σ v Q a r k => by
  have hl : j < σ.length := by rw [a.len]; exact (List.getElem?_eq_some_iff.mp hj).1
  refine k _ (by simp) (fun i hi => ?_) (wipe_set (by simp)) (fun {F' G'} g a' => at_setF' hj a' (r.up g) (List.getElem?_set_self hl)) fun {F' G' H'} a' => a'.setUn hj
  rw [List.getElem?_set_ne (fun e => hi (by rw [e]; exact List.mem_cons_self))]
theorem tg_pair {K : PySem.W.Frag} {i j : Nat} {d e : D} (hi : ρ[i]? = some .un) (hj : ρ[j]? = some .un) (hij : i ≠ j) : TgOk K [i, j] ρ (gTup K 2 (gCons (gName i) (gCons (gName j) gNil))) (.tup [d, e]) ((ρ.set i (.fz d)).set j (.fz e)) := fun F G0 G H σ v Q a r k => by
  cases r with
  | tup z r =>
    obtain ⟨v1, v2, rfl, r1, r2⟩ := r.two
    have hl : i < σ.length := by rw [a.len]; exact (List.getElem?_eq_some_iff.mp hi).1
    have hl2 : j < σ.length := by rw [a.len]; exact (List.getElem?_eq_some_iff.mp hj).1
    have hj2 : (ρ.set i (.fz d))[j]? = some .un := by rw [List.getElem?_set_ne hij]; exact hj
    refine ⟨_, _, rfl, sqT_ex a.gh z, rfl, v1, [v2], rfl, v2, [], rfl, rfl, ?_⟩
    refine k _ (by simp) (fun n hn => ?_) ?_ (fun {F' G'} g a' => ?_) fun {F' G' H'} a' => (a'.setUn hj2).setUn hi
    · rw [List.getElem?_set_ne (fun e => hn (by rw [e]; simp)), List.getElem?_set_ne (fun e => hn (by rw [e]; simp))]
    · rw [wipe_set (by simp), wipe_set (by simp)]
    · exact at_setF' hj2 (at_setF' hi a' (r1.up g) (by rw [List.getElem?_set_ne (Ne.symm hij)]; exact List.getElem?_set_self hl)) (r2.up g) (List.getElem?_set_self (by simpa using hl2))
theorem filter_take {α : Type} {p : α → Bool} {xs : List α} {i : Nat} {x : α} (h : xs[i]? = some x) : (xs.take (i + 1)).filter p = if p x = true then (xs.take i).filter p ++ [x] else (xs.take i).filter p := by
  rw [List.take_add_one, h, List.filter_append]
  cases e : p x with
  | true => simp [e]
  | false => simp [e]
theorem len_filter_take {α β : Type} {p : α → Bool} {f : α → β} {xs : List α} {i : Nat} (h : xs.length < sizeLine) : (((xs.take i).filter p).map f).length < sizeLine := by
  rw [List.length_map]
  refine Nat.lt_of_le_of_lt (List.length_filter_le _ _) (Nat.lt_of_le_of_lt ?_ h)
  rw [List.length_take]
  exact Nat.min_le_right _ _
theorem lc_read {elt : Expr} {ifs : List Expr} {scope : Scope} {α : Type} {xs : List α} {enc : α → D} {p : α → Bool} {f : α → D} {ρt : α → List Cell} {g : TG} {vs : List Nat}
    (hv : ∀ j ∈ vs, ρ[j]? = some .un) (tg : ∀ a ∈ xs, TgOk X.K vs ρ g (enc a) (ρt a)) (ht : ∀ a ∈ xs, Blk X scope fun Y => JTs Y (ρt a) ifs (p a)) (he : ∀ a ∈ xs, p a = true → Blk X scope fun Y => JE Y W0 (ρt a) elt (.ok (f a))) (hz : xs.length < sizeLine)
    {σ : L2.St} {H : Hp} {Q : VK} (h : cE X.K X.mg ρ (.nl ((xs.filter p).map f)) W σ H Q) : tLc (iList X.K (cE X.K X.mg ρ (.ok (.lst (xs.map enc))) W)) g (lcT X scope ifs) (lcE X scope elt) vs σ H Q := by
  obtain ⟨F, G0, G, a, k⟩ := h
  refine ⟨F, G0, G, a, fun v G1 H1 g1 hh1 a1 r1 => ?_⟩
  cases r1 with
  | @lst q ys _ e r =>
    refine ⟨q, rfl, ⟨ys, .of (a1.gh _ _ e)⟩, fun D0 hD => ?_⟩
    have nm : ∀ (i : Nat) (es : List D), ρ[i]? = some (Cell.mu es) → σ[i]? ≠ some (some (V.ref D0)) := fun i es h1 h2 => by
      obtain ⟨p2, zs, q1, q2, q3, q4, q5⟩ := a1.mu h1
      rw [h2] at q1
      cases q1
      rw [hD] at q4
      cases q4
    refine lc_list (K := X.K) (a := q) (xs := ys) (fun i H' => LcAt X.K F G0 ρ G1 H1 σ D0 (((xs.take i).filter p).map f) H') ⟨G1, [], Ex.rf G1, Ex.new hD, a1.grow (Ex.new hD), a1.gh.free hD, a1.fh.free hD, upd_same, .nil⟩ (fun i H' _ ⟨G', _, g', _, a', _⟩ => .of (a'.gh _ _ (g' _ _ e))) (fun i x H' hx I => ?_) (fun H' I => ?_)
    · obtain ⟨d, hd, rd⟩ := r.got hx
      rw [List.getElem?_map] at hd
      cases hxi : xs[i]? with
      | none => rw [hxi] at hd; cases hd
      | some y =>
        rw [hxi] at hd
        cases hd
        have my : y ∈ xs := List.mem_of_getElem? hxi
        have I0 := I
        obtain ⟨G2, zs, g2, hh2, a2, n1, n2, hD2, rz⟩ := I0
        have aw : At X.K F G0 ρ G2 (wipe σ vs) H' := a2.swap hv (wipe_length _ _) fun i hi => wipe_off hi
        refine tg y my F G0 G2 H' (wipe σ vs) x _ aw (rd.up g2) fun σ2 l2 o2 w2 to bk => ⟨by rw [w2]; exact wipe_wipe, ?_⟩
        have hl2 : σ2.length = σ.length := l2.trans (wipe_length _ _)
        have ho2 : ∀ i, i ∉ vs → σ2[i]? = σ[i]? := fun i hi => (o2 i hi).trans (wipe_off hi)
        have t := lcAt_turn (X := X) (ifs := ifs) (elt := elt) (scope := scope) (b := p y) (d := f y) (ρ2 := ρt y) (G1 := G2) (σ2 := σ2) (vs := vs) (D0 := D0) (es := ((xs.take i).filter p).map f) (H := H') (H1 := H1) (ρ := ρ) (σ := σ) (F := F) (G0 := G0) ⟨G2, zs, Ex.rf G2, hh2, a2, n1, n2, hD2, rz⟩ hD hv hl2 ho2 (fun g a => to g a) (fun a => bk a) (ht y my) (he y my) (len_filter_take hz) nm
        have ee : (if p y = true then ((xs.take i).filter p).map f ++ [f y] else ((xs.take i).filter p).map f) = ((xs.take (i + 1)).filter p).map f := by
          rw [filter_take hxi]
          cases p y <;> simp
        rw [ee] at t
        have up : ∀ H3, LcAt X.K F G0 ρ G2 H1 σ D0 (((xs.take (i + 1)).filter p).map f) H3 → LcAt X.K F G0 ρ G1 H1 σ D0 (((xs.take (i + 1)).filter p).map f) H3 := fun H3 ⟨G3, ws, g3, r⟩ => ⟨G3, ws, g2.tr g3, r⟩
        obtain ⟨ρ', b', hb', F1, G01, G11, at1, k1⟩ := t
        refine ⟨ρ', b', hb', F1, G01, G11, at1, fun G4 H4 g4 h4 a4 => ?_⟩
        have z := k1 G4 H4 g4 h4 a4
        cases b' with
        | false => exact iteF (up _ (by simpa using z))
        | true =>
          have z' : lcE X scope elt σ2 H4 fun y H4 => ∃ acc, H4 D0 = some (.lst acc) ∧ acc.length < sizeLine ∧ LcAt X.K F G0 ρ G2 H1 σ D0 (((xs.take (i + 1)).filter p).map f) (upd H4 D0 (.lst (acc ++ [y]))) := by simpa using z
          obtain ⟨ρ5, d5, hb5, F5, G05, G15, at5, k5⟩ := z'
          refine iteT ⟨ρ5, d5, hb5, F5, G05, G15, at5, fun v6 G6 H6 g6 h6 a6 r6 => ?_⟩
          obtain ⟨acc, e1, e2, e3⟩ := k5 v6 G6 H6 g6 h6 a6 r6
          exact ⟨acc, e1, e2, up _ e3⟩
    · obtain ⟨G2, zs, g2, hh2, a2, n1, n2, hD2, rz⟩ := I
      have el : ((xs.take ys.length).filter p).map f = (xs.filter p).map f := by
        have : ys.length = xs.length := by rw [r.len, List.length_map]
        rw [this, List.take_length]
      rw [el] at rz
      exact k D0 zs G2 H' (g1.tr g2) (hh1.tr hh2) a2 (hh1.free hD) n1 hD2 rz
theorem je_lc1 {i : Nat} {x : Str} {px : Pos} {iter elt : Expr} {ifs : List Expr} {scope : Scope} {pos : Pos} {α : Type} {xs : List α} {enc : α → D} {p : α → Bool} {f : α → D} (hc : X.calm = true) (nd : X.N.Nodup) (hi : JE X W ρ iter (.ok (.lst (xs.map enc)))) (hj : ρ[i]? = some .un) (ok : BlkOk X.N X.env.scope scope [(x, i)])
    (tg : Blk X scope fun Y => PG Y (.Name x px) (gName i)) (ht : ∀ a ∈ xs, Blk X scope fun Y => JTs Y (ρ.set i (.fz (enc a))) ifs (p a)) (he : ∀ a ∈ xs, p a = true → Blk X scope fun Y => JE Y W0 (ρ.set i (.fz (enc a))) elt (.ok (f a))) (hz : xs.length < sizeLine)
    (hs : ∀ x, foldedSetIterable iter X.env x = pure x := by intro _; rfl) : JE X W ρ (.ListComp elt [⟨.Name x px, iter, ifs, 0⟩] scope pos) (.nl ((xs.filter p).map f)) :=
  PE.imp (pe_lc hc nd (pi_list hi) ok tg lcT_ok lcE_ok hs) fun σ H Q h => lc_read (fun j hj' => by
    have e : j = i := by simpa using hj'
    rw [e]; exact hj) (fun a _ => tg_name hj) ht he hz h
theorem js_lc1 {k : Nat} {y : Str} {py : Pos} {i : Nat} {x : Str} {px : Pos} {iter elt : Expr} {ifs : List Expr} {scope : Scope} {pos spos : Pos} {α : Type} {xs : List α} {enc : α → D} {p : α → Bool} {f : α → D} {Φ : Out → Prop} (hc : X.calm = true) (nd : X.N.Nodup) (hy : X.N[k]? = some y) (hyl : X.env.scope.names.lookup y = some .local)
    (hsw : swapsWith (.ListComp elt [⟨.Name x px, iter, ifs, 0⟩] scope pos) (some (.Name y py)) spos.line X.env = pure true) (hi : JE X W ρ iter (.ok (.lst (xs.map enc)))) (hj : ρ[i]? = some .un) (ok : BlkOk X.N X.env.scope scope [(x, i)])
    (tg : Blk X scope fun Y => PG Y (.Name x px) (gName i)) (ht : ∀ a ∈ xs, Blk X scope fun Y => JTs Y (ρ.set i (.fz (enc a))) ifs (p a)) (he : ∀ a ∈ xs, p a = true → Blk X scope fun Y => JE Y W0 (ρ.set i (.fz (enc a))) elt (.ok (f a))) (hz : xs.length < sizeLine) (kk : Φ (.nx (ρ.set k (.mu ((xs.filter p).map f)))))
    (hs : ∀ x, foldedSetIterable iter X.env x = pure x := by intro _; rfl) : JS X W ρ (.Assign [.Name y py] (.ListComp elt [⟨.Name x px, iter, ifs, 0⟩] scope pos) spos) Φ :=
  PS.imp (ps_setLc hc nd hy hyl hsw (pi_list hi) ok tg lcT_ok lcE_ok hs) fun Dn σ H ⟨F, G0, G, a, q⟩ => lc_read (fun j hj' => by
    have e : j = i := by simpa using hj'
    rw [e]; exact hj) (fun a _ => tg_name hj) ht he hz ⟨F, G0, G, a, fun p xs G' H' g hh a' n1 n2 e r => q _ kk _ G' H' g (a'.setM (a.fh.free n1) n2 e r fun j c hj h1 o1 e1 => by
    cases c with
    | un => cases o1
    | fz d => cases o1
    | mu es =>
      obtain ⟨p2, ys, q1, q2, q3, q4, q5⟩ := a.mu h1
      rw [e1] at q1
      cases q1
      rw [n1] at q4
      cases q4)⟩
end
end DL

namespace DL
open PySem PySem.Spec PyProof.Rows L2
theorem bt_int : bootBuiltins "int" = some (.type "int") := by decide +kernel
theorem bt_str : bootBuiltins "str" = some (.type "str") := by decide +kernel
theorem bt_bool : bootBuiltins "bool" = some (.type "bool") := by decide +kernel
theorem bt_list : bootBuiltins "list" = some (.type "list") := by decide +kernel
theorem bt_tuple : bootBuiltins "tuple" = some (.type "tuple") := by decide +kernel
theorem bt_dict : bootBuiltins "dict" = some (.type "dict") := by decide +kernel
theorem bt_range : bootBuiltins "range" = some (.type "range") := by decide +kernel
theorem bt_enumerate : bootBuiltins "enumerate" = some (.type "enumerate") := by decide +kernel
theorem bt_zip : bootBuiltins "zip" = some (.type "zip") := by decide +kernel
theorem bt_reversed : bootBuiltins "reversed" = some (.type "reversed") := by decide +kernel
theorem bt_set : bootBuiltins "set" = some (.type "set") := by decide +kernel
theorem bt_len : bootBuiltins "len" = some (.builtin "len") := by decide +kernel
theorem bt_isinstance : bootBuiltins "isinstance" = some (.builtin "isinstance") := by decide +kernel
theorem bt_abs : bootBuiltins "abs" = some (.builtin "abs") := by decide +kernel
theorem bt_sum : bootBuiltins "sum" = some (.builtin "sum") := by decide +kernel
theorem bt_any : bootBuiltins "any" = some (.builtin "any") := by decide +kernel
theorem bt_all : bootBuiltins "all" = some (.builtin "all") := by decide +kernel
theorem bt_max : bootBuiltins "max" = some (.builtin "max") := by decide +kernel
theorem bt_min : bootBuiltins "min" = some (.builtin "min") := by decide +kernel
theorem bt_sorted : bootBuiltins "sorted" = some (.builtin "sorted") := by decide +kernel
def D.isInt : D → Bool
  | .bl _ => true
  | .int _ => true
  | _ => false
theorem kb_NoneType_int : kitB "NoneType" "int" = some false := by decide +kernel
theorem kb_bool_int : kitB "bool" "int" = some true := by decide +kernel
theorem kb_int_int : kitB "int" "int" = some true := by decide +kernel
theorem kb_str_int : kitB "str" "int" = some false := by decide +kernel
theorem kb_list_int : kitB "list" "int" = some false := by decide +kernel
theorem kb_tuple_int : kitB "tuple" "int" = some false := by decide +kernel
theorem cw_isiInt {X : Cx} {d : D} (hp : d.pl = true) : CallW X (.builtin "isinstance") [d, .ty "int"] (.bl d.isInt) := by
  refine cw_isi hp ?_
  cases d with
  | non => exact kb_NoneType_int
  | bl _ => exact kb_bool_int
  | int _ => exact kb_int_int
  | str _ => exact kb_str_int
  | lst _ => exact kb_list_int
  | fls _ => exact kb_list_int
  | tup _ => exact kb_tuple_int
  | _ => cases hp
def D.isBool : D → Bool
  | .bl _ => true
  | _ => false
theorem kb_NoneType_bool : kitB "NoneType" "bool" = some false := by decide +kernel
theorem kb_bool_bool : kitB "bool" "bool" = some true := by decide +kernel
theorem kb_int_bool : kitB "int" "bool" = some false := by decide +kernel
theorem kb_str_bool : kitB "str" "bool" = some false := by decide +kernel
theorem kb_list_bool : kitB "list" "bool" = some false := by decide +kernel
theorem kb_tuple_bool : kitB "tuple" "bool" = some false := by decide +kernel
theorem cw_isiBool {X : Cx} {d : D} (hp : d.pl = true) : CallW X (.builtin "isinstance") [d, .ty "bool"] (.bl d.isBool) := by
  refine cw_isi hp ?_
  cases d with
  | non => exact kb_NoneType_bool
  | bl _ => exact kb_bool_bool
  | int _ => exact kb_int_bool
  | str _ => exact kb_str_bool
  | lst _ => exact kb_list_bool
  | fls _ => exact kb_list_bool
  | tup _ => exact kb_tuple_bool
  | _ => cases hp
def D.isStr : D → Bool
  | .str _ => true
  | _ => false
theorem kb_NoneType_str : kitB "NoneType" "str" = some false := by decide +kernel
theorem kb_bool_str : kitB "bool" "str" = some false := by decide +kernel
theorem kb_int_str : kitB "int" "str" = some false := by decide +kernel
theorem kb_str_str : kitB "str" "str" = some true := by decide +kernel
theorem kb_list_str : kitB "list" "str" = some false := by decide +kernel
theorem kb_tuple_str : kitB "tuple" "str" = some false := by decide +kernel
theorem cw_isiStr {X : Cx} {d : D} (hp : d.pl = true) : CallW X (.builtin "isinstance") [d, .ty "str"] (.bl d.isStr) := by
  refine cw_isi hp ?_
  cases d with
  | non => exact kb_NoneType_str
  | bl _ => exact kb_bool_str
  | int _ => exact kb_int_str
  | str _ => exact kb_str_str
  | lst _ => exact kb_list_str
  | fls _ => exact kb_list_str
  | tup _ => exact kb_tuple_str
  | _ => cases hp
def D.isTuple : D → Bool
  | .tup _ => true
  | _ => false
theorem kb_NoneType_tuple : kitB "NoneType" "tuple" = some false := by decide +kernel
theorem kb_bool_tuple : kitB "bool" "tuple" = some false := by decide +kernel
theorem kb_int_tuple : kitB "int" "tuple" = some false := by decide +kernel
theorem kb_str_tuple : kitB "str" "tuple" = some false := by decide +kernel
theorem kb_list_tuple : kitB "list" "tuple" = some false := by decide +kernel
theorem kb_tuple_tuple : kitB "tuple" "tuple" = some true := by decide +kernel
theorem cw_isiTuple {X : Cx} {d : D} (hp : d.pl = true) : CallW X (.builtin "isinstance") [d, .ty "tuple"] (.bl d.isTuple) := by
  refine cw_isi hp ?_
  cases d with
  | non => exact kb_NoneType_tuple
  | bl _ => exact kb_bool_tuple
  | int _ => exact kb_int_tuple
  | str _ => exact kb_str_tuple
  | lst _ => exact kb_list_tuple
  | fls _ => exact kb_list_tuple
  | tup _ => exact kb_tuple_tuple
  | _ => cases hp
def D.isList : D → Bool
  | .lst _ => true
  | .fls _ => true
  | _ => false
theorem kb_NoneType_list : kitB "NoneType" "list" = some false := by decide +kernel
theorem kb_bool_list : kitB "bool" "list" = some false := by decide +kernel
theorem kb_int_list : kitB "int" "list" = some false := by decide +kernel
theorem kb_str_list : kitB "str" "list" = some false := by decide +kernel
theorem kb_list_list : kitB "list" "list" = some true := by decide +kernel
theorem kb_tuple_list : kitB "tuple" "list" = some false := by decide +kernel
theorem cw_isiList {X : Cx} {d : D} (hp : d.pl = true) : CallW X (.builtin "isinstance") [d, .ty "list"] (.bl d.isList) := by
  refine cw_isi hp ?_
  cases d with
  | non => exact kb_NoneType_list
  | bl _ => exact kb_bool_list
  | int _ => exact kb_int_list
  | str _ => exact kb_str_list
  | lst _ => exact kb_list_list
  | fls _ => exact kb_list_list
  | tup _ => exact kb_tuple_list
  | _ => cases hp
theorem ow_isB {X : Cx} {b c : Bool} : OpW X (compareOp .Is) (.bl b) (.bl c) (.bl (decide (b = c))) := ⟨_, op_isBl, rfl, fun H v u Q r1 r2 k => by
  cases r1; cases r2
  exact ⟨b, c, rfl, rfl, k _ (.bl _)⟩⟩
theorem ow_isntB {X : Cx} {b c : Bool} : OpW X (compareOp .IsNot) (.bl b) (.bl c) (.bl (!decide (b = c))) := ⟨_, op_notBl, rfl, fun H v u Q r1 r2 k => by
  cases r1; cases r2
  exact ⟨b, c, rfl, rfl, k _ (.bl _)⟩⟩
/-- a word between a statement and the rest -/
def cutΦ (M : List Cell → Prop) (Φ : Out → Prop) : Out → Prop
  | .nx ρ' => M ρ'
  | .bk ρ' => Φ (.bk ρ')
  | .ct ρ' => Φ (.ct ρ')
  | .rt r => Φ (.rt r)
  | .er c ρ' => Φ (.er c ρ')
theorem jss_cut {X : Cx} {W : WX} {ρ : List Cell} {Φ : Out → Prop} {st : Stmt} {rest : List Stmt} (M : List Cell → Prop) (h : JS X W ρ st (cutΦ M Φ)) (k : ∀ ρ', M ρ' → JSs X W ρ' rest Φ) : JSs X W ρ (st :: rest) Φ :=
  jss_cons (JS.post h fun o ho => by
    cases o with
    | nx ρ' => exact k ρ' ho
    | bk ρ' => exact ho
    | ct ρ' => exact ho
    | rt r => exact ho
    | er c ρ' => exact ho)
section
variable {X : Cx} {W : WX} {ρ : List Cell}
theorem jp_orT {a b : Expr} {rest : List Expr} {pos : Pos} (h : JT X ρ a true) : JP X ρ (.BoolOp .Or (a :: b :: rest) pos) true := jp_or (d := true) h fun z => by cases z
theorem jp_andF {a b : Expr} {rest : List Expr} {pos : Pos} (h : JT X ρ a false) : JP X ρ (.BoolOp .And (a :: b :: rest) pos) false := jp_and (d := true) h fun z => by cases z
theorem je_andF {a b : Expr} {rest : List Expr} {pos : Pos} (h : JE X W ρ a (.ok (.bl false))) : JE X W ρ (.BoolOp .And (a :: b :: rest) pos) (.ok (.bl false)) := je_and (d := true) h fun z => by cases z
theorem je_orT {a b : Expr} {rest : List Expr} {pos : Pos} (h : JE X W ρ a (.ok (.bl true))) : JE X W ρ (.BoolOp .Or (a :: b :: rest) pos) (.ok (.bl true)) := je_or (d := true) h fun z => by cases z
theorem jt_is {e : Expr} {b c : Bool} (h : JT X ρ e b) (q : b = c) : JT X ρ e c := by rw [← q]; exact h
theorem je_is {e : Expr} {r r' : Res} (h : JE X W ρ e r) (q : r = r') : JE X W ρ e r' := by rw [← q]; exact h
end
/-! ### more of lists: +, slices, list(..), strings by place -/
section
variable {X : Cx} {W : WX} {ρ : List Cell}
theorem Bd.hu65 {k : Nat} (B : Bd X W k) : X.A.units + 65 < cLine := by have := B.hr.un; omega
theorem je_cat {a b : Expr} {ds es : List D} {pos : Pos} (ha : JE X W ρ a (.ok (.lst ds))) (hb : JE X W ρ b (.ok (.lst es))) (hz : ds.length + es.length ≤ sizeLine) : JE X W ρ (.BinOp a .Add b pos) (.nl (ds ++ es)) :=
  PE.imp (pe_op op_cat ha hb) fun σ H Q ⟨F, G0, G, a0, k⟩ => ⟨F, G0, G, a0, fun v G1 H1 g1 h1 a1 r1 => ⟨F, G0, G1, a1, fun u G2 H2 g2 h2 a2 r2 => by
    cases r1 with
    | lst e1 r1 =>
      cases r2 with
      | lst e2 r2 =>
        refine ⟨_, _, _, _, rfl, rfl, a2.gh _ _ (g2 _ _ e1), a2.gh _ _ e2, by rw [r1.len, r2.len]; exact hz, fun p hp => ?_⟩
        exact k p _ G2 _ (g1.tr g2) ((h1.tr h2).tr (Ex.new hp)) (a2.grow (Ex.new hp)) ((h1.tr h2).free hp) (a2.gh.free hp) upd_same ((r1.up g2).app r2)⟩⟩
theorem je_listOf {e : Expr} {ds : List D} {p pos : Pos} (h : JE X W ρ e (.ok (.lst ds))) (hg : Gl X "list") (hm : X.mg "list" = none)
    (he : starEach (e :: []) X.env = (false, eval e X.env) :: starEach [] X.env := by rfl) (hpl : (backTo pos (starEach [] X.env)).any (·.1) = false := by rfl) : JE X W ρ (.Call (.Name "list" p) [e] [] pos) (.nl ds) :=
  PE.imp (pe_callTy call_list_of hg hm boot_list (ja_cons h ja_nil he) (by decide) (by decide) he hpl) fun σ H Q ⟨F, G0, G, a0, k⟩ => ⟨F, G0, G, a0, fun vs G1 H1 g1 h1 a1 r0 => by
    obtain ⟨v, rfl, r⟩ := r0.one
    cases r with
    | lst e1 r1 => exact ⟨_, _, rfl, .inl (.of (a1.gh _ _ e1)), fun q hq => k q _ G1 _ g1 (h1.tr (Ex.new hq)) (a1.grow (Ex.new hq)) (h1.free hq) (a1.gh.free hq) upd_same r1⟩⟩
theorem je_tupleOf {e : Expr} {ds : List D} {p pos : Pos} (h : JE X W ρ e (.ok (.lst ds))) (hg : Gl X "tuple") (hm : X.mg "tuple" = none)
    (he : starEach (e :: []) X.env = (false, eval e X.env) :: starEach [] X.env := by rfl) (hpl : (backTo pos (starEach [] X.env)).any (·.1) = false := by rfl) : JE X W ρ (.Call (.Name "tuple" p) [e] [] pos) (.ok (.tup ds)) :=
  PE.imp (pe_callTy call_tuple_of hg hm boot_tuple (ja_cons h ja_nil he) (by decide) (by decide) he hpl) fun σ H Q ⟨F, G0, G, a0, k⟩ => ⟨F, G0, G, a0, fun vs G1 H1 g1 h1 a1 r0 => by
    obtain ⟨v, rfl, r⟩ := r0.one
    cases r with
    | lst e1 r1 => exact ⟨_, _, rfl, .inl ⟨.of (a1.gh _ _ e1), fun q hq => by
        have n := a1.gh.free hq
        exact k (.ref q) (upd G1 q (.tup _)) _ (g1.tr (Ex.new n)) (h1.tr (Ex.new hq)) (a1.new hq) (.tup (.inl (.inl upd_same)) (r1.up (Ex.new n)))⟩⟩⟩
def cO (K : PySem.W.Frag) (ρ : List Cell) (o : Option Int) : TO := fun σ H Q => ∃ F G0 G, At K F G0 ρ G σ H ∧ ∀ G' H', Ex G G' → Ex H H' → At K F G0 ρ G' σ H' → Q o H'
abbrev JO (X : Cx) (ρ : List Cell) (e : Option Expr) (o : Option Int) : Prop := PO X e (cO X.K ρ o)
theorem PO.imp {e : Option Expr} {t t' : TO} (h : PO X e t) (w : ∀ σ H Q, t' σ H Q → t σ H Q) : PO X e t' := ⟨fun pins s σ H Q I q => h.run pins s σ H Q I (w _ _ _ q)⟩
theorem jo_none : JO X ρ none none := PO.imp po_none fun σ H Q ⟨F, G0, G, a0, k⟩ => k G H (Ex.rf G) (Ex.rf H) a0
theorem jo_some {e : Expr} {i : Int} (h : JW X ρ e (.int i)) : JO X ρ (some e) (some i) := PO.imp (po_some h) fun σ H Q ⟨F, G0, G, a0, k⟩ => ⟨F, G0, G, a0, fun v G1 H1 g1 h1 a1 r1 => by
  cases r1
  exact ⟨i, rfl, k G1 H1 g1 h1 a1⟩⟩
def cutD (xs : List D) (lo hi : Option Int) : List D := (xs.drop (HT.sIx xs.length 0 lo)).take (HT.sIx xs.length xs.length hi - HT.sIx xs.length 0 lo)
theorem RpA.cut {K : PySem.W.Frag} {G : Hp} {vs : List V} {ds : List D} (r : RpA K G vs ds) (lo hi : Option Int) : RpA K G (cutV vs lo hi) (cutD ds lo hi) := by
  unfold cutV cutD
  rw [r.len]
  exact (r.drop _).take _
theorem je_sl {e : Expr} {lo hi : Option Expr} {l h : Option Int} {ds : List D} {p2 pos : Pos} (he : JE X W ρ e (.ok (.lst ds))) (hl : JO X ρ lo l) (hh : JO X ρ hi h) : JE X W ρ (.Subscript e (.Slice lo hi none p2) pos) (.nl (cutD ds l h)) :=
  PE.imp (pe_slice sl_list he hl hh) fun σ H Q ⟨F, G0, G, a0, k⟩ => ⟨F, G0, G, a0, fun v G1 H1 g1 h1 a1 r1 => ⟨F, G0, G1, a1, fun G2 H2 g2 h2 a2 => ⟨F, G0, G2, a2, fun G3 H3 g3 h3 a3 => by
    cases r1 with
    | lst e1 r1 => exact ⟨_, _, rfl, .of (a3.gh _ _ (g3 _ _ (g2 _ _ e1))), fun p hp => k p _ G3 _ ((g1.tr g2).tr g3) (((h1.tr h2).tr h3).tr (Ex.new hp)) (a3.grow (Ex.new hp)) (((h1.tr h2).tr h3).free hp) (a3.gh.free hp) upd_same ((r1.up (g2.tr g3)).cut l h)⟩⟩⟩⟩
theorem je_ixS {a b : Expr} {z : Str} {i : Int} {c : Nat} {pos : Pos} (ha : JW X ρ a (.str z)) (hb : JW X ρ b (.int i)) (h : z.length ≤ sizeLine ∧ L2.atI z.cps.toList i = some c) (hs : PlainIx b := by intro _ _; rfl) : JE X W ρ (.Subscript a b pos) (.ok (.str ⟨#[c]⟩)) :=
  PE.imp (pe_ix ix_str ha hb hs) fun σ H Q ⟨F, G0, G, a0, k⟩ => ⟨F, G0, G, a0, fun v G1 H1 g1 h1 a1 r1 => ⟨F, G0, G1, a1, fun u G2 H2 g2 h2 a2 r2 => by
    cases r2
    cases r1
    exact ⟨z, i, c, rfl, rfl, h.1, h.2, k _ G2 H2 (g1.tr g2) (h1.tr h2) a2 (.str _)⟩⟩⟩
/-- the law: from what the list layer asks -/
def spLaw (K : PySem.W.Frag) : Sp := fun vs H Q _ => ∃ (a : Addr) (ns : List Int), vs = [.ref a] ∧ SqL K H a (ns.map V.int) ∧ ns.length ≤ 63 ∧ ∀ H', Q (.bl true) H'
def SpLaw (ds : List D) (r : Res) : Prop := ∃ ns : List Int, ds = [.fls (ns.map D.int)] ∧ ns.length ≤ 63 ∧ r = .ok (.bl true)
theorem law_imp {P : Program} {w : World} {K : PySem.W.Frag} {mg : Str → Option Value} {base : Heap} {k : Nat} {f : Addr} {fd : FuncData} {ps : List Str} (F : FnD P w K mg base k f fd ps SpLaw) : FnOk P w K mg base (L2.CX P w) k f fd ps (spLaw K) :=
  F.imp fun vs H Q E ⟨a, ns, e, hS, hl, q⟩ => ⟨[.fls (ns.map D.int)], .ok (.bl true), H, ⟨ns, rfl, hl, rfl⟩, Ex.rf H, by rw [e]; exact .cons (.fls hS (RpA.ints ns)) .nil, fun v G' H' _ _ _ _ r => by cases r; exact q H'⟩
end
end DL

namespace DL
open PySem PySem.Spec PyProof.Rows L2
section
variable {X : Cx} {W : WX} {ρ : List Cell}
/-- in a block nothing may leave, so nothing need be taken -/
theorem takes0 {X : Cx} : Takes X W0 := fun _ _ ⟨_, _, _, _, _, _, _, _, _, _, _, _, _, _, _, _, w⟩ => w.elim
/-- a turn of a comprehension, the item at place i of xs -/
theorem lc_one {elt : Expr} {ifs : List Expr} {scope : Scope} {α : Type} {xs : List α} {enc : α → D} {p : α → Bool} {f : α → D} {ρt : α → List Cell} {g : TG} {vs : List Nat} {i : Nat} {y : α} {x : V} {F G0 G1 H1 H' : Hp} {σ : L2.St} {D0 : Addr}
    (hv : ∀ j ∈ vs, ρ[j]? = some .un) (hxi : xs[i]? = some y) (tg : TgOk X.K vs ρ g (enc y) (ρt y)) (ht : Blk X scope fun Y => JTs Y (ρt y) ifs (p y)) (he : p y = true → Blk X scope fun Y => JE Y W0 (ρt y) elt (.ok (f y))) (hz : xs.length < sizeLine)
    (hD : H1 D0 = none) (nm : ∀ (i : Nat) (es : List D), ρ[i]? = some (Cell.mu es) → σ[i]? ≠ some (some (V.ref D0))) (I : LcAt X.K F G0 ρ G1 H1 σ D0 (((xs.take i).filter p).map f) H') (rd : ∀ G, Ex G1 G → Rp X.K G x (enc y)) :
    g x (wipe σ vs) H' fun σ2 H2 => wipe σ2 vs = wipe σ vs ∧ lcT X scope ifs σ2 H2 fun b H3 => if b = true then lcE X scope elt σ2 H3 fun y H4 => ∃ acc, H4 D0 = some (.lst acc) ∧ acc.length < sizeLine ∧ LcAt X.K F G0 ρ G1 H1 σ D0 (((xs.take (i + 1)).filter p).map f) (upd H4 D0 (.lst (acc ++ [y]))) else LcAt X.K F G0 ρ G1 H1 σ D0 (((xs.take (i + 1)).filter p).map f) H3 := by
  obtain ⟨G2, zs, g2, hh2, a2, n1, n2, hD2, rz⟩ := I
  have aw : At X.K F G0 ρ G2 (wipe σ vs) H' := a2.swap hv (wipe_length _ _) fun i hi => wipe_off hi
  refine tg F G0 G2 H' (wipe σ vs) x _ aw (rd G2 g2) fun σ2 l2 o2 w2 to bk => ⟨by rw [w2]; exact wipe_wipe, ?_⟩
  have hl2 : σ2.length = σ.length := l2.trans (wipe_length _ _)
  have ho2 : ∀ i, i ∉ vs → σ2[i]? = σ[i]? := fun i hi => (o2 i hi).trans (wipe_off hi)
  have t := lcAt_turn (X := X) (ifs := ifs) (elt := elt) (scope := scope) (b := p y) (d := f y) (ρ2 := ρt y) (G1 := G2) (σ2 := σ2) (vs := vs) (D0 := D0) (es := ((xs.take i).filter p).map f) (H := H') (H1 := H1) (ρ := ρ) (σ := σ) (F := F) (G0 := G0) ⟨G2, zs, Ex.rf G2, hh2, a2, n1, n2, hD2, rz⟩ hD hv hl2 ho2 (fun g a => to g a) (fun a => bk a) ht he (len_filter_take hz) nm
  have ee : (if p y = true then ((xs.take i).filter p).map f ++ [f y] else ((xs.take i).filter p).map f) = ((xs.take (i + 1)).filter p).map f := by
    rw [filter_take hxi]
    cases p y <;> simp
  rw [ee] at t
  have up : ∀ H3, LcAt X.K F G0 ρ G2 H1 σ D0 (((xs.take (i + 1)).filter p).map f) H3 → LcAt X.K F G0 ρ G1 H1 σ D0 (((xs.take (i + 1)).filter p).map f) H3 := fun H3 ⟨G3, ws, g3, r⟩ => ⟨G3, ws, g2.tr g3, r⟩
  obtain ⟨ρ', b', hb', F1, G01, G11, at1, k1⟩ := t
  refine ⟨ρ', b', hb', F1, G01, G11, at1, fun G4 H4 g4 h4 a4 => ?_⟩
  have z := k1 G4 H4 g4 h4 a4
  cases b' with
  | false => exact iteF (up _ (by simpa using z))
  | true =>
    have z' : lcE X scope elt σ2 H4 fun y H4 => ∃ acc, H4 D0 = some (.lst acc) ∧ acc.length < sizeLine ∧ LcAt X.K F G0 ρ G2 H1 σ D0 (((xs.take (i + 1)).filter p).map f) (upd H4 D0 (.lst (acc ++ [y]))) := by simpa using z
    obtain ⟨ρ5, d5, hb5, F5, G05, G15, at5, k5⟩ := z'
    refine iteT ⟨ρ5, d5, hb5, F5, G05, G15, at5, fun v6 G6 H6 g6 h6 a6 r6 => ?_⟩
    obtain ⟨acc, e1, e2, e3⟩ := k5 v6 G6 H6 g6 h6 a6 r6
    exact ⟨acc, e1, e2, up _ e3⟩
theorem not_own {K : PySem.W.Frag} {F G0 G1 H1 : Hp} {σ : L2.St} {D0 : Addr} (a1 : At K F G0 ρ G1 σ H1) (hD : H1 D0 = none) : ∀ (i : Nat) (es : List D), ρ[i]? = some (Cell.mu es) → σ[i]? ≠ some (some (V.ref D0)) := fun i es h1 h2 => by
  obtain ⟨p2, zs, q1, q2, q3, q4, q5⟩ := a1.mu h1
  rw [h2] at q1
  cases q1
  rw [hD] at q4
  cases q4
/-- over range(n) -/
theorem lc_readR {elt : Expr} {ifs : List Expr} {scope : Scope} {n : Int} {p : Nat → Bool} {f : Nat → D} {ρt : Nat → List Cell} {g : TG} {vs : List Nat}
    (hv : ∀ j ∈ vs, ρ[j]? = some .un) (tg : ∀ k : Nat, (k : Int) < n → TgOk X.K vs ρ g (.int k) (ρt k)) (ht : ∀ k : Nat, (k : Int) < n → Blk X scope fun Y => JTs Y (ρt k) ifs (p k)) (he : ∀ k : Nat, (k : Int) < n → p k = true → Blk X scope fun Y => JE Y W0 (ρt k) elt (.ok (f k))) (hn : n < 1000000 ∧ -1000000 < n)
    {σ : L2.St} {H : Hp} {Q : VK} (h : cE X.K X.mg ρ (.nl (((List.range n.toNat).filter p).map f)) W σ H Q) : tLc (iRng1 (cA X.K ρ [.int n])) g (lcT X scope ifs) (lcE X scope elt) vs σ H Q := by
  obtain ⟨F, G0, G, a, k⟩ := h
  refine ⟨F, G0, G, a, fun v G1 H1 g1 hh1 a1 r1 => ?_⟩
  obtain ⟨v1, rfl, r2⟩ := r1.one
  cases r2
  refine ⟨n, rfl, by omega, by omega, fun D0 hD => ?_⟩
  refine lc_range (lo := 0) (n := n.toNat) (fun i H' => LcAt X.K F G0 ρ G1 H1 σ D0 ((((List.range n.toNat).take i).filter p).map f) H') ⟨G1, [], Ex.rf G1, Ex.new hD, a1.grow (Ex.new hD), a1.gh.free hD, a1.fh.free hD, upd_same, .nil⟩ (fun i H' hi I => ?_) (fun H' I => ?_)
  · have e0 : (0 : Int) + (i : Int) = (i : Int) := Int.zero_add _
    have hi' : (i : Int) < n := by omega
    show g (.int ((0 : Int) + (i : Int))) _ _ _
    rw [e0]
    exact lc_one (enc := fun k : Nat => D.int k) hv (by rw [List.getElem?_range hi]) (tg i hi') (ht i hi') (he i hi') (by rw [List.length_range]; exact Nat.lt_of_lt_of_le (show n.toNat < 1000000 by omega) (by decide)) hD (not_own a1 hD) I fun _ _ => .int _
  · obtain ⟨G2, zs, g2, hh2, a2, n1, n2, hD2, rz⟩ := I
    have el : (List.range n.toNat).take n.toNat = List.range n.toNat := by
      conv => lhs; rw [show n.toNat = (List.range n.toNat).length by rw [List.length_range]]
      rw [List.length_range, List.take_of_length_le (by rw [List.length_range]; exact Nat.le_refl _)]
    rw [el] at rz
    exact k D0 zs G2 H' (g1.tr g2) (hh1.tr hh2) a2 (hh1.free hD) n1 hD2 rz
theorem je_lcR {i : Nat} {x : Str} {px : Pos} {a elt : Expr} {ifs : List Expr} {scope : Scope} {pos p2 rpos : Pos} {n : Int} {p : Nat → Bool} {f : Nat → D} (hc : X.calm = true) (nd : X.N.Nodup) (hg : Gl X "range") (hm : X.mg "range" = none) (hi : JE X W ρ a (.ok (.int n))) (hn : n < 1000000 ∧ -1000000 < n) (hj : ρ[i]? = some .un) (ok : BlkOk X.N X.env.scope scope [(x, i)])
    (tg : Blk X scope fun Y => PG Y (.Name x px) (gName i)) (ht : ∀ k : Nat, (k : Int) < n → Blk X scope fun Y => JTs Y (ρ.set i (.fz (.int k))) ifs (p k)) (he : ∀ k : Nat, (k : Int) < n → p k = true → Blk X scope fun Y => JE Y W0 (ρ.set i (.fz (.int k))) elt (.ok (f k)))
    (hs : ∀ x, foldedSetIterable (.Call (.Name "range" p2) [a] [] rpos) X.env x = pure x := by intro _; rfl) (hse : starEach [a] X.env = [(false, eval a X.env)] := by rfl) : JE X W ρ (.ListComp elt [⟨.Name x px, .Call (.Name "range" p2) [a] [] rpos, ifs, 0⟩] scope pos) (.nl (((List.range n.toNat).filter p).map f)) :=
  PE.imp (pe_lc hc nd (pi_range1 hg hm (ja_cons hi ja_nil hse) hse) ok tg lcT_ok lcE_ok hs) fun σ H Q h => lc_readR (fun j hj' => by
    have e : j = i := by simpa using hj'
    rw [e]; exact hj) (fun a _ => tg_name hj) ht he hn h
/-- over range(m, n) -/
theorem lc_readR2 {elt : Expr} {ifs : List Expr} {scope : Scope} {m n : Int} {p : Nat → Bool} {f : Nat → D} {ρt : Nat → List Cell} {g : TG} {vs : List Nat}
    (hv : ∀ j ∈ vs, ρ[j]? = some .un) (tg : ∀ k : Nat, m + (k : Int) < n → TgOk X.K vs ρ g (.int (m + k)) (ρt k)) (ht : ∀ k : Nat, m + (k : Int) < n → Blk X scope fun Y => JTs Y (ρt k) ifs (p k)) (he : ∀ k : Nat, m + (k : Int) < n → p k = true → Blk X scope fun Y => JE Y W0 (ρt k) elt (.ok (f k))) (hn : n < 1000000 ∧ -1000000 < n ∧ m < 1000000 ∧ -1000000 < m)
    {σ : L2.St} {H : Hp} {Q : VK} (h : cE X.K X.mg ρ (.nl (((List.range (n - m).toNat).filter p).map f)) W σ H Q) : tLc (iRng2 (cA X.K ρ [.int m, .int n])) g (lcT X scope ifs) (lcE X scope elt) vs σ H Q := by
  obtain ⟨F, G0, G, a, k⟩ := h
  refine ⟨F, G0, G, a, fun v G1 H1 g1 hh1 a1 r1 => ?_⟩
  obtain ⟨v1, v2, rfl, r3, r4⟩ := r1.two
  cases r3
  cases r4
  refine ⟨m, n, rfl, ⟨by omega, by omega, by omega, by omega⟩, fun D0 hD => ?_⟩
  refine lc_range (lo := m) (n := (n - m).toNat) (fun i H' => LcAt X.K F G0 ρ G1 H1 σ D0 ((((List.range (n - m).toNat).take i).filter p).map f) H') ⟨G1, [], Ex.rf G1, Ex.new hD, a1.grow (Ex.new hD), a1.gh.free hD, a1.fh.free hD, upd_same, .nil⟩ (fun i H' hi I => ?_) (fun H' I => ?_)
  · have hi' : m + (i : Int) < n := by omega
    exact lc_one (enc := fun k : Nat => D.int (m + k)) hv (by rw [List.getElem?_range hi]) (tg i hi') (ht i hi') (he i hi') (by rw [List.length_range]; exact Nat.lt_of_lt_of_le (show (n - m).toNat < 2000000 by omega) (by decide)) hD (not_own a1 hD) I fun _ _ => .int _
  · obtain ⟨G2, zs, g2, hh2, a2, n1, n2, hD2, rz⟩ := I
    rw [List.take_of_length_le (by rw [List.length_range]; exact Nat.le_refl _)] at rz
    exact k D0 zs G2 H' (g1.tr g2) (hh1.tr hh2) a2 (hh1.free hD) n1 hD2 rz
/-- y = [.. for x in range(n)] -/
theorem js_lcR {k : Nat} {y : Str} {py : Pos} {i : Nat} {x : Str} {px : Pos} {a elt : Expr} {ifs : List Expr} {scope : Scope} {pos p2 rpos spos : Pos} {n : Int} {p : Nat → Bool} {f : Nat → D} {Φ : Out → Prop} (hc : X.calm = true) (nd : X.N.Nodup) (hy : X.N[k]? = some y) (hyl : X.env.scope.names.lookup y = some .local)
    (hsw : swapsWith (.ListComp elt [⟨.Name x px, .Call (.Name "range" p2) [a] [] rpos, ifs, 0⟩] scope pos) (some (.Name y py)) spos.line X.env = pure true) (hg : Gl X "range") (hm : X.mg "range" = none) (hi : JE X W ρ a (.ok (.int n))) (hn : n < 1000000 ∧ -1000000 < n) (hj : ρ[i]? = some .un) (ok : BlkOk X.N X.env.scope scope [(x, i)])
    (tg : Blk X scope fun Y => PG Y (.Name x px) (gName i)) (ht : ∀ k : Nat, (k : Int) < n → Blk X scope fun Y => JTs Y (ρ.set i (.fz (.int k))) ifs (p k)) (he : ∀ k : Nat, (k : Int) < n → p k = true → Blk X scope fun Y => JE Y W0 (ρ.set i (.fz (.int k))) elt (.ok (f k))) (kk : Φ (.nx (ρ.set k (.mu (((List.range n.toNat).filter p).map f)))))
    (hs : ∀ x, foldedSetIterable (.Call (.Name "range" p2) [a] [] rpos) X.env x = pure x := by intro _; rfl) (hse : starEach [a] X.env = [(false, eval a X.env)] := by rfl) : JS X W ρ (.Assign [.Name y py] (.ListComp elt [⟨.Name x px, .Call (.Name "range" p2) [a] [] rpos, ifs, 0⟩] scope pos) spos) Φ :=
  PS.imp (ps_setLc hc nd hy hyl hsw (pi_range1 hg hm (ja_cons hi ja_nil hse) hse) ok tg lcT_ok lcE_ok hs) fun Dn σ H ⟨F, G0, G, a, q⟩ => lc_readR (W := W) (fun j hj' => by
    have e : j = i := by simpa using hj'
    rw [e]; exact hj) (fun a _ => tg_name hj) ht he hn ⟨F, G0, G, a, fun p xs G' H' g hh a' n1 n2 e r => q _ kk _ G' H' g (a'.setM (a.fh.free n1) n2 e r fun j c hj h1 o1 e1 => by
    cases c with
    | un => cases o1
    | fz d => cases o1
    | mu es =>
      obtain ⟨p2, ys, q1, q2, q3, q4, q5⟩ := a.mu h1
      rw [e1] at q1
      cases q1
      rw [n1] at q4
      cases q4)⟩
theorem cw_min (hc : X.calm = true) {i j : Int} : CallW X (.builtin "min") [.int i, .int j] (.int (min i j)) := ⟨_, call_min2 hc, rfl, fun H vs Q r k => by
  obtain ⟨v, u, rfl, r1, r2⟩ := r.two
  cases r1; cases r2
  refine ⟨i, j, rfl, ?_⟩
  have e : (if j < i then j else i) = min i j := by split <;> omega
  rw [e]
  exact k _ (.int _)⟩
theorem cw_max (hc : X.calm = true) {i j : Int} : CallW X (.builtin "max") [.int i, .int j] (.int (max i j)) := ⟨_, call_max2 hc, rfl, fun H vs Q r k => by
  obtain ⟨v, u, rfl, r1, r2⟩ := r.two
  cases r1; cases r2
  refine ⟨i, j, rfl, ?_⟩
  have e : (if j > i then j else i) = max i j := by split <;> omega
  rw [e]
  exact k _ (.int _)⟩
end
end DL

namespace DL
open PySem PySem.Spec PyProof.Rows L2
theorem for_str {x : Str} {g : L2.TG} {tb : TS} {D : Ends} {σ : L2.St} {H : Hp} (Pv : Nat → L2.St → Hp → Prop) (h0 : Pv 0 σ H)
    (hs : ∀ i c σ H, x.cps[i]? = some c → Pv i σ H → g (.str ⟨#[c]⟩) σ H fun σ2 H2 => tb { D with nx := Pv (i + 1), ct := Pv (i + 1), bk := D.nx } σ2 H2) (hd : ∀ σ H, Pv x.cps.size σ H → D.nx σ H) :
    ∃ W : Nat → Nat → L2.St → Hp → Prop, (∃ m, W 0 m σ H) ∧ ∀ i m σ H, W i m σ H →
      ((Its x).stop i H ∧ D.nx σ H) ∨ ((Its x).go i H ∧ ∃ N : L2.St → Hp → Prop, (∀ σ' H', N σ' H' → ∃ m', m' < m ∧ W (i + 1) m' σ' H') ∧ ∀ v H', (Its x).yld i H v H' → g v σ H' fun σ2 H2 => tb { D with nx := N, ct := N, bk := D.nx } σ2 H2) := by
  refine ⟨fun i m σ H => m = x.cps.size - i ∧ i ≤ x.cps.size ∧ Pv i σ H, ⟨x.cps.size, by simp, Nat.zero_le _, h0⟩, ?_⟩
  rintro i m σ H ⟨rfl, hi, p⟩
  by_cases hlt : i < x.cps.size
  · refine .inr ⟨hlt, Pv (i + 1), fun σ' H' p' => ⟨x.cps.size - (i + 1), by omega, rfl, hlt, p'⟩, fun v H' y => ?_⟩
    obtain ⟨rfl, c, hc, rfl⟩ := y
    exact hs i c σ _ hc p
  · have e : i = x.cps.size := by omega
    subst e
    exact .inl ⟨Nat.le_refl _, hd σ H p⟩
section
variable {X : Cx} {W : WX} {ρ : List Cell} {Φ : Out → Prop}
/-- for c in text -/
theorem js_forS {tg iter : Expr} {body : List Stmt} {z : Str} {pos : Pos} (po : PassesOwn (model X.prog X.w) X.A X.env X.xe) (hc : X.calm = true) (hi : JE X W ρ iter (.ok (.str z))) (Inv : Nat → List Cell → Prop) (h0 : Inv 0 ρ)
    (turn : ∀ i c ρ1, z.cps[i]? = some c → Inv i ρ1 → ∃ ρ2, JG X ρ1 tg (.str ⟨#[c]⟩) ρ2 ∧ JSs X W ρ2 body (turnΦ Inv i Φ)) (hd : ∀ ρ1, Inv z.cps.size ρ1 → Φ (.nx ρ1)) (hs : ∀ x, foldedSetIterable iter X.env x = pure x := by intro _; rfl) : JS X W ρ (.For tg iter body [] pos) Φ := by
  refine PS.imp (ps_for po hc (pi_str hi) (pg_any (tg := tg)) (pss_any (W := W)) hs) fun D σ H ⟨F, G0, G, a, q⟩ => ⟨F, G0, G, a, fun v G1 H1 g1 hh1 a1 r1 => ?_⟩
  cases r1
  refine ⟨z, rfl, for_str (fun i σ' H' => ∃ ρ' G', Inv i ρ' ∧ Ex G1 G' ∧ At X.K F G0 ρ' G' σ' H') ⟨ρ, G1, h0, Ex.rf G1, a1⟩ (fun i c σ' H' hx ⟨ρ', G', I, g', a'⟩ => ?_) (fun σ' H' ⟨ρ', G', I, g', a'⟩ => ?_)⟩
  · obtain ⟨ρ2, hg, hb⟩ := turn i c ρ' hx I
    exact turn_ok a' g' (.str _) hg hb fun o ho => ((q o ho).grow g1)
  · exact q _ (hd ρ' I) σ' G' H' (g1.tr g') a'
/-- text * n -/
def repS (z : Str) (n : Nat) : Str := ⟨(List.replicate n z.cps).foldl (· ++ ·) #[]⟩
theorem rep_size (a : Array Nat) : ∀ (n : Nat) (acc : Array Nat), ((List.replicate n a).foldl (· ++ ·) acc).size = acc.size + n * a.size
  | 0, acc => by simp
  | n + 1, acc => by
    rw [List.replicate_succ, List.foldl_cons, rep_size a n, Array.size_append, Nat.add_mul]
    omega
theorem repS_len (z : Str) (n : Nat) : (repS z n).length = z.length * n := by
  show ((List.replicate n z.cps).foldl (· ++ ·) #[]).size = z.cps.size * n
  rw [rep_size, Nat.mul_comm]
  simp
theorem op_mul_str : OpR X (binaryOp .Mult) (fun x y H Q => ∃ (z : Str) (n : Nat), x = .str z ∧ y = .int n ∧ (1 < n ∧ 0 < z.length ∧ z.length * n ≤ 1000000) ∧ Q (.str (repS z n)) H) := by
  intro pins s σ H x y v u Q I rx ry h
  obtain ⟨z, n, rfl, rfl, ⟨h1, h2, h3⟩, q⟩ := h
  obtain ⟨t, rfl⟩ := rx
  obtain ⟨t', rfl⟩ := ry
  have hn : n ≤ 1000000 := Nat.le_trans (Nat.le_mul_of_pos_left n h2) h3
  have hz : z.length ≤ 1000000 := Nat.le_trans (Nat.le_mul_of_pos_right z.length (by omega)) h3
  have e0 : ((n : Int) == 1 || z.length == 0) = false := by
    have a : ((n : Int) == 1) = false := by simp; omega
    have b : (z.length == 0) = false := by simp; omega
    rw [a, b]; rfl
  refine PySem.P.mul_str (by simp; omega) (fun _ _ => ?_) (fun _ _ => ?_) ?_
  · have : (1000000 : Int) ≤ (2 ^ 63 - 1) / (n : Int) := by
      rw [Int.le_ediv_iff_mul_le (by omega)]
      omega
    omega
  · rw [Int.toNat_natCast]
    have : z.length * n ≤ sizeLine := Nat.le_trans h3 (by decide)
    unfold Builtin.Str.tooLong
    simp
    omega
  · rw [if_neg (by omega), if_neg (by rw [e0]; decide), Int.toNat_natCast]
    exact ⟨by rw [show (⟨(List.replicate n z.cps).foldl (· ++ ·) #[]⟩ : Str).length = (repS z n).length from rfl, repS_len]; exact Nat.le_trans h3 (by decide), .str (repS z n), H, I.tok _, ⟨_, rfl⟩, q⟩
theorem ow_mulS {z : Str} {n : Nat} (h : 1 < n ∧ 0 < z.length ∧ z.length * n ≤ 1000000) : OpW X (binaryOp .Mult) (.str z) (.int n) (.str (repS z n)) := ⟨_, op_mul_str, rfl, fun H v u Q r1 r2 k => by
  cases r1; cases r2
  exact ⟨z, n, rfl, rfl, h, k _ (.str _)⟩⟩
theorem ow_inC {c : Nat} {z : Str} : OpW X (compareOp .In) (.str ⟨#[c]⟩) (.str z) (.bl (decide (c ∈ z.cps.toList))) := ⟨_, op_in_sign, rfl, fun H v u Q r1 r2 k => by
  cases r1; cases r2
  exact ⟨c, z, rfl, rfl, k _ (.bl _)⟩⟩
theorem ow_notinC {c : Nat} {z : Str} : OpW X (compareOp .NotIn) (.str ⟨#[c]⟩) (.str z) (.bl (!decide (c ∈ z.cps.toList))) := ⟨_, op_notIn_sign, rfl, fun H v u Q r1 r2 k => by
  cases r1; cases r2
  exact ⟨c, z, rfl, rfl, k _ (.bl _)⟩⟩
/-- int(text) -/
theorem cw_intS {z : Str} {n : Int} (h : intText? z = some n) (hl : z.length ≤ 640) : CallW X (.type "int") [.str z] (.int n) := ⟨_, call_int_str, rfl, fun H vs Q r0 k => by
  obtain ⟨v, rfl, r⟩ := r0.one
  cases r
  exact ⟨z, n, rfl, h, hl, k _ (.int _)⟩⟩
/-- text.split(sep) -/
theorem RpA.strs {K : PySem.W.Frag} {G : Hp} : ∀ l : List Str, RpA K G (l.map V.str) (l.map D.str)
  | [] => .nil
  | x :: l => .cons (.str x) (RpA.strs l)
theorem je_split {o e : Expr} {a b : Str} {apos pos : Pos} (ho : JE X W ρ o (.ok (.str a))) (he : JE X W ρ e (.ok (.str b))) (hb : (b.length == 0) = false) (hz : a.length + 2 ≤ sizeLine) (hs : starEach [e] X.env = [(false, eval e X.env)] := by rfl)
    (hbase : attributeBase o "split" X.env (eval o X.env) = eval o X.env := by rfl) (hline : (apos.endLine == pos.line) = true := by rfl) : JE X W ρ (.Call (.Attribute o "split" apos) [e] [] pos) (.nl ((Txt.split a b).map D.str)) :=
  PE.imp (pe_split ho he hs hbase hline) fun σ H Q ⟨F, G0, G, a0, k⟩ => ⟨F, G0, G, a0, fun v G1 H1 g1 h1 a1 r1 => by
    cases r1
    refine ⟨⟨a, rfl⟩, F, G0, G1, a1, fun u G2 H2 g2 h2 a2 r2 => ?_⟩
    cases r2
    exact ⟨a, b, rfl, rfl, hb, hz, fun p hp => k p _ G2 _ (g1.tr g2) ((h1.tr h2).tr (Ex.new hp)) (a2.grow (Ex.new hp)) ((h1.tr h2).free hp) (a2.gh.free hp) upd_same (RpA.strs _)⟩⟩
/-- f-strings -/
inductive JF (X : Cx) (W : WX) (ρ : List Cell) : List Expr → List Str → Prop where
  | nil : JF X W ρ [] []
  | lit {x : Str} {j : Nat} {p : Pos} {es : List Expr} {xs : List Str} (r : JF X W ρ es xs) : JF X W ρ (.Constant (.str x) j p :: es) (x :: xs)
  | str {e : Expr} {x : Str} {p : Pos} {es : List Expr} {xs : List Str} (h : JE X W ρ e (.ok (.str x))) (hz : x.length ≤ sizeLine) (r : JF X W ρ es xs) : JF X W ρ (.FormattedValue e (-1) none p :: es) (x :: xs)
  | int {e : Expr} {i : Int} {p : Pos} {es : List Expr} {xs : List Str} (h : JE X W ρ e (.ok (.int i))) (hz : i.natAbs.log2 < 1920) (r : JF X W ρ es xs) : JF X W ρ (.FormattedValue e (-1) none p :: es) (toString i :: xs)
def fitS : Str → List Str → Prop
  | _, [] => True
  | acc, x :: xs => (acc ++ x).length ≤ sizeLine ∧ fitS (acc ++ x) xs
theorem jf_run {es : List Expr} {xs : List Str} (h : JF X W ρ es xs) : ∃ ts, PJ X es ts ∧ ∀ (acc : Str) (σ : L2.St) (H : Hp) (Q : Str → Hp → Prop), fitS acc xs → (∃ F G0 G, At X.K F G0 ρ G σ H ∧ ∀ G' H', Ex G G' → Ex H H' → At X.K F G0 ρ G' σ H' → Q (xs.foldl (· ++ ·) acc) H') → tJs ts acc σ H Q := by
  induction h with
  | nil => exact ⟨[], .nil, fun acc σ H Q _ ⟨F, G0, G, a, k⟩ => k G H (Ex.rf G) (Ex.rf H) a⟩
  | @lit x j p es xs r ih =>
    obtain ⟨ts, hj, ih⟩ := ih
    refine ⟨_, .cons (je_str (W := W) (ρ := ρ)) hj, fun acc σ H Q hf ⟨F, G0, G, a, k⟩ => ?_⟩
    refine ⟨F, G0, G, a, fun v G1 H1 g1 h1 a1 r1 => ?_⟩
    cases r1
    exact ⟨x, rfl, hf.1, ih _ σ H1 Q hf.2 ⟨F, G0, G1, a1, fun G' H' g hh a' => k G' H' (g1.tr g) (h1.tr hh) a'⟩⟩
  | @str e x p es xs h hz r ih =>
    obtain ⟨ts, hj, ih⟩ := ih
    refine ⟨_, .cons (pe_fmt h) hj, fun acc σ H Q hf ⟨F, G0, G, a, k⟩ => ?_⟩
    refine ⟨F, G0, G, a, fun v G1 H1 g1 h1 a1 r1 => ?_⟩
    cases r1
    exact .inl ⟨x, rfl, hz, x, rfl, hf.1, ih _ σ H1 Q hf.2 ⟨F, G0, G1, a1, fun G' H' g hh a' => k G' H' (g1.tr g) (h1.tr hh) a'⟩⟩
  | @int e i p es xs h hz r ih =>
    obtain ⟨ts, hj, ih⟩ := ih
    refine ⟨_, .cons (pe_fmt h) hj, fun acc σ H Q hf ⟨F, G0, G, a, k⟩ => ?_⟩
    refine ⟨F, G0, G, a, fun v G1 H1 g1 h1 a1 r1 => ?_⟩
    cases r1
    exact .inr ⟨i, rfl, hz, _, rfl, hf.1, ih _ σ H1 Q hf.2 ⟨F, G0, G1, a1, fun G' H' g hh a' => k G' H' (g1.tr g) (h1.tr hh) a'⟩⟩
theorem je_fstr {e1 e2 : Expr} {es : List Expr} {xs : List Str} {pos : Pos} (h : JF X W ρ (e1 :: e2 :: es) xs) (hf : fitS Str.empty xs) : JE X W ρ (.JoinedStr (e1 :: e2 :: es) pos) (.ok (.str (xs.foldl (· ++ ·) Str.empty))) := by
  obtain ⟨ts, hj, q⟩ := jf_run h
  exact PE.imp (pe_joined hj) fun σ H Q ⟨F, G0, G, a, k⟩ => q _ σ H _ hf ⟨F, G0, G, a, fun G' H' g hh a' => k _ G' H' g hh a' (.str _)⟩
end
end DL

namespace DL
open PySem PySem.Spec PyProof.Rows L2 TL

/-! ### numbers: gcd, ratios -/
theorem wide_small {i j : Int} (hi : -(2 ^ 64) < i ∧ i < 2 ^ 64) (hj : -(2 ^ 64) < j ∧ j < 2 ^ 64) : CMulW i j := wide_mul (a := 64) (b := 64) (by omega) (by omega) (by decide) (by decide) (by decide)
theorem div_small {i j : Int} (h : 0 < j) (hj : j < 2 ^ 64) : CDivW i j := wide_div (b := 64) h (by omega) (by decide) (by decide)
def dQ (q : Int × Int) : D := .tup [.int q.1, .int q.2]
/-- what _law_gcd does, one turn after another -/
theorem gcd_step (a b : Nat) (h : 0 < b) : Nat.gcd b (a % b) = Nat.gcd a b := by
  rw [Nat.gcd_comm a b, Nat.gcd_rec b a, Nat.gcd_comm]
/-- the turn's state: the numbers, how small they have become -/
structure GT (x y : Nat) (i : Nat) (a b : Nat) : Prop where
  g : Nat.gcd a b = Nat.gcd x y
  s : 1 ≤ i → b < a ∧ a * b * 2 ^ (i - 1) < 2 ^ 1800
  z : a < 2 ^ 900 ∧ b < 2 ^ 900
theorem GT.start {x y : Nat} (hx : x < 2 ^ 900) (hy : y < 2 ^ 900) : GT x y 0 x y := ⟨rfl, fun h => by omega, hx, hy⟩
theorem GT.next {x y i a b : Nat} (h : GT x y i a b) (hb : 0 < b) : GT x y (i + 1) b (a % b) := by
  have hl : a % b < b := Nat.mod_lt _ hb
  refine ⟨(gcd_step a b hb).trans h.g, fun _ => ⟨hl, ?_⟩, h.z.2, Nat.lt_trans hl h.z.2⟩
  by_cases hi : 1 ≤ i
  · obtain ⟨h1, h2⟩ := h.s hi
    have e : a = b * (a / b) + a % b := (Nat.div_add_mod a b).symm
    have q : 1 ≤ a / b := Nat.div_pos (Nat.le_of_lt h1) hb
    have q2 : b ≤ b * (a / b) := by
      have := Nat.mul_le_mul_left b q
      simpa using this
    have k : 2 * (a % b) ≤ a := by omega
    have e3 : i + 1 - 1 = (i - 1) + 1 := by omega
    rw [e3, Nat.pow_succ]
    have : b * (a % b) * (2 ^ (i - 1) * 2) ≤ a * b * 2 ^ (i - 1) := by
      calc b * (a % b) * (2 ^ (i - 1) * 2) = (2 * (a % b)) * b * 2 ^ (i - 1) := by
            rw [Nat.mul_comm (2 ^ (i - 1)) 2, ← Nat.mul_assoc, Nat.mul_comm (b * (a % b)) 2, Nat.mul_comm b (a % b), ← Nat.mul_assoc 2]
        _ ≤ a * b * 2 ^ (i - 1) := Nat.mul_le_mul_right _ (Nat.mul_le_mul_right _ k)
    exact Nat.lt_of_le_of_lt this h2
  · have e0 : i = 0 := by omega
    subst e0
    show b * (a % b) * 2 ^ 0 < 2 ^ 1800
    rw [Nat.pow_zero, Nat.mul_one]
    have e : (2 : Nat) ^ 1800 = 2 ^ 900 * 2 ^ 900 := by rw [← Nat.pow_add]
    rw [e]
    exact Nat.mul_lt_mul'' h.z.2 (Nat.lt_trans hl h.z.2)
theorem GT.last {x y a b : Nat} (h : GT x y 2000 a b) : a = Nat.gcd x y := by
  obtain ⟨h1, h2⟩ := h.s (by decide)
  have hb : b = 0 := by
    rcases Nat.eq_zero_or_pos b with z | z
    · exact z
    · have p : 1 ≤ a * b := Nat.mul_pos (Nat.lt_trans z h1) z
      have : 1 * 2 ^ (2000 - 1) ≤ a * b * 2 ^ (2000 - 1) := Nat.mul_le_mul_right _ p
      have l : (2 : Nat) ^ 1800 ≤ 1 * 2 ^ (2000 - 1) := by
        rw [Nat.one_mul]
        exact Nat.pow_le_pow_right (by decide) (by decide)
      omega
  have g := h.g
  rw [hb, Nat.gcd_zero_right] at g
  exact g
theorem GT.zero {x y i a : Nat} (h : GT x y i a 0) : a = Nat.gcd x y := by
  have g := h.g
  rw [Nat.gcd_zero_right] at g
  exact g
/-- the ratio in lowest terms -/
def qc (n d : Int) : Int := if d < 0 then 0 - (Nat.gcd n.natAbs d.natAbs : Int) else (Nat.gcd n.natAbs d.natAbs : Int)
@[irreducible] def qmk (n d : Int) : Int × Int := (n.fdiv (qc n d), d.fdiv (qc n d))
theorem qmk_1 (n d : Int) : (qmk n d).1 = n.fdiv (qc n d) := by unfold qmk; rfl
theorem qmk_2 (n d : Int) : (qmk n d).2 = d.fdiv (qc n d) := by unfold qmk; rfl
theorem qc_ne {n d : Int} (h : d ≠ 0) : qc n d ≠ 0 := by
  have : 0 < Nat.gcd n.natAbs d.natAbs := Nat.gcd_pos_of_pos_right _ (by omega)
  unfold qc
  split <;> omega
theorem qc_le {n d : Int} (h : d ≠ 0) : (qc n d).natAbs ≤ d.natAbs := by
  have l : Nat.gcd n.natAbs d.natAbs ≤ d.natAbs := Nat.gcd_le_right _ (by omega)
  unfold qc
  split <;> omega
theorem qc_divN {n d x : Int} (h : d ≠ 0) (hd : d.natAbs < 2 ^ 8000) : CDivWN x (qc n d) :=
  ⟨qc_ne h, Nat.lt_of_lt_of_le (PySem.Flt.log2_lt_of (by decide) (Nat.lt_of_le_of_lt (qc_le h) hd)) (by decide)⟩
theorem qmk_neg {n d : Int} (h : d < 0) : qmk n d = (n.fdiv (-(Nat.gcd n.natAbs d.natAbs : Int)), d.fdiv (-(Nat.gcd n.natAbs d.natAbs : Int))) := by
  unfold qmk qc
  rw [if_pos h, Int.zero_sub]
theorem qmk_pos {n d : Int} (h : ¬ d < 0) : qmk n d = (n.fdiv (Nat.gcd n.natAbs d.natAbs : Int), d.fdiv (Nat.gcd n.natAbs d.natAbs : Int)) := by
  unfold qmk qc
  rw [if_neg h]
def D.isI : D → Bool
  | .int _ => true
  | _ => false
def SzQ (q : Int × Int) : Prop := q.1.natAbs < 2 ^ 400 ∧ q.2.natAbs < 2 ^ 400
theorem Sz2.of {p1 p2 q1 q2 : Int} (hp : SzQ (p1, p2)) (hq : SzQ (q1, q2)) : CMulW p1 q2 ∧ CMulW q1 p2 ∧ CMulW p2 q2 ∧ CMulW p1 q1 ∧ CMulW p2 q1 ∧
    ((p2 * q2).natAbs < 2 ^ 8000 ∧ (p2 * q1).natAbs < 2 ^ 8000 ∧ (p2 * q2).natAbs < 2 ^ 900 ∧ (p2 * q1).natAbs < 2 ^ 900) ∧ ((p1 * q2 + q1 * p2).natAbs < 2 ^ 900 ∧ (p1 * q1).natAbs < 2 ^ 900 ∧ (p1 * q2).natAbs < 2 ^ 900) := by
  obtain ⟨a, b⟩ := hp
  obtain ⟨c, d⟩ := hq
  have W : ∀ {i j : Int}, i.natAbs < 2 ^ 400 → j.natAbs < 2 ^ 400 → CMulW i j := fun h1 h2 => wide_mul h1 h2 (by decide) (by decide) (by decide)
  have L : ∀ {i j : Int}, i.natAbs < 2 ^ 400 → j.natAbs < 2 ^ 400 → (i * j).natAbs < 2 ^ 800 := fun h1 h2 => wide_lt h1 h2
  have U : ∀ {i : Int}, i.natAbs < 2 ^ 800 → i.natAbs < 2 ^ 900 := fun h => Nat.lt_of_lt_of_le h (Nat.pow_le_pow_right (by decide) (by decide))
  have U2 : ∀ {i : Int}, i.natAbs < 2 ^ 800 → i.natAbs < 2 ^ 8000 := fun h => Nat.lt_of_lt_of_le h (Nat.pow_le_pow_right (by decide) (by decide))
  refine ⟨W a d, W c b, W b d, W a c, W b c, ⟨U2 (L b d), U2 (L b c), U (L b d), U (L b c)⟩, ?_, U (L a c), U (L a d)⟩
  have x : (p1 * q2).natAbs < 2 ^ 800 := L a d
  have y : (q1 * p2).natAbs < 2 ^ 800 := L c b
  have e : (2 : Nat) ^ 900 = 2 ^ 800 * 2 ^ 100 := by rw [← Nat.pow_add]
  have z : (2 : Nat) ≤ 2 ^ 100 := by decide
  have k : (2 : Nat) ^ 800 * 2 ≤ 2 ^ 900 := by rw [e]; exact Nat.mul_le_mul_left _ z
  generalize (2 : Nat) ^ 900 = M at k ⊢
  generalize (2 : Nat) ^ 800 = N at x y k
  omega
def qcmp (p1 p2 q1 q2 : Int) : Int := (if decide (q1 * p2 < p1 * q2) = true then 1 else 0) - (if decide (p1 * q2 < q1 * p2) = true then 1 else 0)
@[reducible] def qadd (f q : Int × Int) : Int × Int := qmk (f.1 * q.2 + q.1 * f.2) (f.2 * q.2)
@[reducible] def qtot (qs : List (Int × Int)) : Int × Int := qs.foldl qadd (0, 1)
def TotOk (qs : List (Int × Int)) : Prop := ∀ i q, qs[i]? = some q → SzQ q ∧ SzQ (qtot (qs.take i)) ∧ (qtot (qs.take i)).2 * q.2 ≠ 0
theorem qtot_take {qs : List (Int × Int)} {i : Nat} {q : Int × Int} (h : qs[i]? = some q) : qtot (qs.take (i + 1)) = qadd (qtot (qs.take i)) q := by
  unfold qtot
  rw [List.take_add_one, h, List.foldl_append]
  rfl

def D.isQ : D → Bool
  | .tup [.int n, .int d] => decide (0 < d) && decide (((Nat.gcd n.natAbs d.natAbs : Nat) : Int) = 1)
  | _ => false
theorem qc_abs {n d : Int} : (qc n d).natAbs = Nat.gcd n.natAbs d.natAbs := by
  unfold qc
  split <;> omega
structure QF (n d q1 q2 : Int) : Prop where
  pos : 0 < q2
  one : Nat.gcd q1.natAbs q2.natAbs = 1
  l1 : q1.natAbs ≤ n.natAbs
  l2 : q2.natAbs ≤ d.natAbs
  e1 : qc n d * q1 = n
  e2 : qc n d * q2 = d
theorem qmk_facts {n d : Int} (h : d ≠ 0) : QF n d (qmk n d).1 (qmk n d).2 := by
  have g0 : 0 < Nat.gcd n.natAbs d.natAbs := Nat.gcd_pos_of_pos_right _ (by omega)
  have dn : qc n d ∣ n := by rw [← Int.natAbs_dvd_natAbs, qc_abs]; exact Nat.gcd_dvd_left _ _
  have dd : qc n d ∣ d := by rw [← Int.natAbs_dvd_natAbs, qc_abs]; exact Nat.gcd_dvd_right _ _
  have e1 : qc n d * (qmk n d).1 = n := by
    rw [qmk_1, Int.fdiv_eq_ediv_of_dvd dn, Int.mul_ediv_cancel' dn]
  have e2 : qc n d * (qmk n d).2 = d := by
    rw [qmk_2, Int.fdiv_eq_ediv_of_dvd dd, Int.mul_ediv_cancel' dd]
  have a1 : Nat.gcd n.natAbs d.natAbs * (qmk n d).1.natAbs = n.natAbs := by
    rw [← qc_abs, ← Int.natAbs_mul, e1]
  have a2 : Nat.gcd n.natAbs d.natAbs * (qmk n d).2.natAbs = d.natAbs := by
    rw [← qc_abs, ← Int.natAbs_mul, e2]
  refine ⟨?_, ?_, ?_, ?_, e1, e2⟩
  · by_cases hd : d < 0
    · have c0 : qc n d < 0 := by unfold qc; rw [if_pos hd]; omega
      rcases Int.lt_trichotomy (qmk n d).2 0 with z | z | z
      · have := Int.mul_pos_of_neg_of_neg c0 z
        omega
      · rw [z, Int.mul_zero] at e2; omega
      · exact z
    · have c0 : 0 < qc n d := by unfold qc; rw [if_neg hd]; omega
      rcases Int.lt_trichotomy (qmk n d).2 0 with z | z | z
      · have := Int.mul_neg_of_pos_of_neg c0 z
        omega
      · rw [z, Int.mul_zero] at e2; omega
      · exact z
  · have k : Nat.gcd n.natAbs d.natAbs * Nat.gcd (qmk n d).1.natAbs (qmk n d).2.natAbs = Nat.gcd n.natAbs d.natAbs * 1 := by
      rw [← Nat.gcd_mul_left, a1, a2, Nat.mul_one]
    exact Nat.eq_of_mul_eq_mul_left g0 k
  · conv => rhs; rw [← a1]
    exact Nat.le_mul_of_pos_left _ g0
  · conv => rhs; rw [← a2]
    exact Nat.le_mul_of_pos_left _ g0

/-! ### the numbers that a law draws -/
theorem map_get {α β : Type} {f : α → β} {l : List α} {i : Nat} {d : β} (h : (l.map f)[i]? = some d) : ∃ x, l[i]? = some x ∧ d = f x := by
  rw [List.getElem?_map] at h
  cases e : l[i]? with
  | none => rw [e] at h; cases h
  | some x => rw [e] at h; exact ⟨x, rfl, (Option.some.inj h).symm⟩
theorem foldl_take {α β : Type} {f : β → α → β} {z : β} {l : List α} {i : Nat} {x : α} (h : l[i]? = some x) : (l.take (i + 1)).foldl f z = f ((l.take i).foldl f z) x := by
  rw [List.take_add_one, h, List.foldl_append]
  rfl
def lnF (s c : Int) : Int := (s * 31 + c) % 2147483647
def lnLeft (ns : List Int) : Int := if decide ((0 : Int) < (ns.length : Int)) && decide (1000000000000000000 ≤ ns.getD (Int.toNat 0) 0) then ns.getD (Int.toNat 0) 0 else 0
def lnOwn (ns : List Int) (k : Nat) : Int := if decide ((0 : Int) < (ns.length : Int)) then ns.getD ((k : Int) % (ns.length : Int)).toNat 0 else 0
def lnSeed (ns : List Int) (k : Nat) (s : Int) : Int := (s * 48271 + lnOwn ns k + k) % 2147483647
def lnStep (ns : List Int) (k : Nat) (st : Int × Int × List Int) : Int × Int × List Int :=
  if 0 < st.1 then (st.1 / 10007, st.2.1, st.2.2 ++ [st.1 % 10007])
  else (st.1, lnSeed ns k st.2.1, st.2.2 ++ [(lnSeed ns k st.2.1 * 69621 + k * 16807) % 2147483629 / 7 % 10007])
def lnRun (ns : List Int) : Nat → Int × Int × List Int
  | 0 => (lnLeft ns, ns.foldl lnF 7, [])
  | k + 1 => lnStep ns k (lnRun ns k)
def lawNums (ns : List Int) (c : Nat) : List Int := (lnRun ns c).2.2
theorem lnF_in (s c : Int) : 0 ≤ lnF s c ∧ lnF s c < 2147483647 := by
  unfold lnF
  omega
theorem lnFold_in (ns : List Int) (i : Nat) : 0 ≤ (ns.take i).foldl lnF 7 ∧ (ns.take i).foldl lnF 7 < 2147483647 := by
  have : ∀ (l : List Int) (z : Int), 0 ≤ z ∧ z < 2147483647 → 0 ≤ l.foldl lnF z ∧ l.foldl lnF z < 2147483647 := fun l => by
    induction l with
    | nil => intro z h; exact h
    | cons x r ih => intro z _; exact ih _ (lnF_in z x)
  exact this _ _ (by decide)
theorem lnRun_in (ns : List Int) : ∀ k, (0 ≤ (lnRun ns k).2.1 ∧ (lnRun ns k).2.1 < 2147483647) ∧ (lnRun ns k).2.2.length = k ∧ ∀ x ∈ (lnRun ns k).2.2, 0 ≤ x ∧ x < 10007
  | 0 => by
    refine ⟨?_, rfl, fun x h => by cases h⟩
    have := lnFold_in ns ns.length
    rw [List.take_length] at this
    exact this
  | k + 1 => by
    obtain ⟨h1, h2, h3⟩ := lnRun_in ns k
    show (0 ≤ (lnStep ns k (lnRun ns k)).2.1 ∧ (lnStep ns k (lnRun ns k)).2.1 < 2147483647) ∧ (lnStep ns k (lnRun ns k)).2.2.length = k + 1 ∧ ∀ x ∈ (lnStep ns k (lnRun ns k)).2.2, 0 ≤ x ∧ x < 10007
    unfold lnStep
    split
    · refine ⟨h1, by simp [h2], fun x hx => ?_⟩
      rcases List.mem_append.mp hx with hx | hx
      · exact h3 x hx
      · have e : x = (lnRun ns k).1 % 10007 := by simpa using hx
        omega
    · refine ⟨by show 0 ≤ lnSeed ns k _ ∧ lnSeed ns k _ < _; unfold lnSeed; omega, by simp [h2], fun x hx => ?_⟩
      rcases List.mem_append.mp hx with hx | hx
      · exact h3 x hx
      · have e : x = (lnSeed ns k (lnRun ns k).2.1 * 69621 + k * 16807) % 2147483629 / 7 % 10007 := by simpa using hx
        omega
theorem lawNums_len (ns : List Int) (c : Nat) : (lawNums ns c).length = c := (lnRun_in ns c).2.1
theorem lawNums_in (ns : List Int) (c : Nat) : ∀ x ∈ lawNums ns c, 0 ≤ x ∧ x < 10007 := (lnRun_in ns c).2.2
theorem nums_at {ns : List Int} {i : Nat} {j : Int} (hj : j = i) (h : i < ns.length) : L2.atI (ns.map D.int) j = some (.int ns[i]) := by
  rw [hj]
  exact atI_nat (by rw [List.getElem?_map, List.getElem?_eq_getElem h]; rfl)

theorem ints_at {ns : List Int} {j : Int} (h : 0 ≤ j ∧ j < ns.length) : L2.atI (ns.map D.int) j = some (.int (ns.getD j.toNat 0)) := by
  obtain ⟨n, rfl⟩ := Int.eq_ofNat_of_zero_le h.1
  refine atI_nat ?_
  have hn : n < ns.length := by omega
  rw [List.getElem?_map, List.getElem?_eq_getElem hn]
  show some (D.int ns[n]) = some (D.int (ns.getD ((n : Int)).toNat 0))
  rw [Int.toNat_natCast, List.getD_eq_getElem?_getD, List.getElem?_eq_getElem hn]
  rfl
theorem len_ints {ns : List Int} : ((ns.map D.int).length : Int) = (ns.length : Int) := by rw [List.length_map]
theorem mod_in {i n : Int} (h : 0 < n) : 0 ≤ i % n ∧ i % n < n := ⟨Int.emod_nonneg _ (by omega), Int.emod_lt_of_pos _ h⟩
theorem lnRun_pos {ns : List Int} {k : Nat} (h : 0 < (lnRun ns k).1) : lnRun ns (k + 1) = ((lnRun ns k).1 / 10007, (lnRun ns k).2.1, (lnRun ns k).2.2 ++ [(lnRun ns k).1 % 10007]) := if_pos h
theorem lnRun_neg {ns : List Int} {k : Nat} (h : ¬ 0 < (lnRun ns k).1) : lnRun ns (k + 1) = ((lnRun ns k).1, lnSeed ns k (lnRun ns k).2.1, (lnRun ns k).2.2 ++ [(lnSeed ns k (lnRun ns k).2.1 * 69621 + k * 16807) % 2147483629 / 7 % 10007]) := if_neg h

theorem pick4 {a b c d x : Int} (h : 0 ≤ x ∧ x < 4) : L2.atI [D.int a, .int b, .int c, .int d] x = some (.int ([a, b, c, d].getD x.toNat 0)) := ints_at (ns := [a, b, c, d]) ⟨h.1, by simp only [List.length_cons, List.length_nil]; omega⟩
theorem pick2 {a b x : Int} (h : 0 ≤ x ∧ x < 2) : L2.atI [D.int a, .int b] x = some (.int ([a, b].getD x.toNat 0)) := ints_at (ns := [a, b]) ⟨h.1, by simp only [List.length_cons, List.length_nil]; omega⟩
theorem pick_of {P : Int → Prop} {l : List Int} {x : Int} (h : 0 ≤ x ∧ x < l.length) (hp : ∀ y ∈ l, P y) : P (l.getD x.toNat 0) := by
  rw [List.getD_eq_getElem?_getD, List.getElem?_eq_getElem (show x.toNat < l.length by omega)]
  exact hp _ (List.getElem_mem _)
theorem numsB (ns : List Int) (c i : Nat) : 0 ≤ (lawNums ns c).getD i 0 ∧ (lawNums ns c).getD i 0 < 10007 := by
  rw [List.getD_eq_getElem?_getD]
  cases e : (lawNums ns c)[i]? with
  | none => exact ⟨by decide, by decide⟩
  | some x => exact lawNums_in ns c x (List.mem_of_getElem? e)
theorem canLay_ints : ∀ l : List Int, PyData.canLayAll0 (D.pys (l.map D.int)) = true
  | [] => rfl
  | a :: l => canLay_ints l
theorem pla_ints : ∀ l : List Int, D.pla (l.map D.int) = true
  | [] => rfl
  | a :: l => pla_ints l
theorem depth_ints : ∀ l : List Int, PyData.depthAll (D.pys (l.map D.int)) ≤ 1
  | [] => by decide
  | a :: l => by
    show max (PyData.depth (.int a)) (PyData.depthAll (D.pys (l.map D.int))) ≤ 1
    have := depth_ints l
    have e : PyData.depth (.int a) = 0 ∨ PyData.depth (.int a) = 1 := by first | exact .inl rfl | exact .inr rfl
    omega
theorem cmp_ints (l : List Int) : (D.lst (l.map D.int)).cmp = true := by
  have a : (D.lst (l.map D.int)).pl = true := pla_ints l
  have b : SeqAt.shaped (D.lst (l.map D.int)).py = true := by
    show (PyData.canLayAll0 (D.pys (l.map D.int)) && decide (PyData.depthAll (D.pys (l.map D.int)) + 1 ≤ 64)) = true
    rw [canLay_ints]
    have := depth_ints l
    simp
    omega
  unfold D.cmp
  rw [a, b]
  rfl
theorem mulB {a b : Int} (ha : 0 ≤ a ∧ a < 10007) (hb : 0 ≤ b ∧ b < 10007) : 0 ≤ a * b ∧ a * b ≤ 100120036 := by
  have h1 := Int.mul_nonneg ha.1 hb.1
  have h2 : a * b ≤ 10006 * 10006 := Int.mul_le_mul (by omega) (by omega) hb.1 (by omega)
  omega
theorem mulB1 {a b : Int} (ha : 0 ≤ a ∧ a < 10007) (hb : 0 ≤ b ∧ b < 10007) : 0 ≤ a * (1 + b) ∧ a * (1 + b) ≤ 100130042 := by
  have h1 := Int.mul_nonneg ha.1 (show 0 ≤ 1 + b by omega)
  have h2 : a * (1 + b) ≤ 10006 * 10007 := Int.mul_le_mul (by omega) (by omega) (by omega) (by omega)
  omega
theorem sml {a : Int} (h : -100000000000000 ≤ a ∧ a ≤ 100000000000000) : a.natAbs < 2 ^ 900 := Nat.lt_of_lt_of_le (show a.natAbs < 2 ^ 100 by omega) (Nat.pow_le_pow_right (by decide) (by decide))
theorem smlM {a b : Int} (h : -100000000000000 ≤ a ∧ a ≤ 100000000000000) (g : -100000000000000 ≤ b ∧ b ≤ 100000000000000) : (a * b).natAbs < 2 ^ 900 := by
  rw [Int.natAbs_mul]
  exact Nat.lt_of_le_of_lt (Nat.mul_le_mul (show a.natAbs ≤ 100000000000000 by omega) (show b.natAbs ≤ 100000000000000 by omega)) (Nat.lt_of_lt_of_le (by decide : 100000000000000 * 100000000000000 < 2 ^ 100) (Nat.pow_le_pow_right (by decide) (by decide)))
theorem any_go {α : Type} {p : α → Bool} {l : List α} {i : Nat} {x : α} (h : l[i]? = some x) (hn : (l.take i).any p = false) (hx : p x = false) : (l.take (i + 1)).any p = false := by
  rw [List.take_add_one, h, List.any_append, hn]
  simp [hx]
theorem any_stop {α : Type} {p : α → Bool} {l : List α} {i : Nat} {x : α} (h : l[i]? = some x) (hx : p x = true) : l.any p = true := List.any_eq_true.mpr ⟨x, List.mem_of_getElem? h, hx⟩
theorem find_stop {α : Type} {p : α → Bool} : ∀ {l : List α} {i : Nat} {x : α}, l[i]? = some x → (l.take i).find? p = none → p x = true → l.find? p = some x
  | [], i, x, h, _, _ => by cases h
  | a :: l, 0, x, h, _, hx => by
    have e : a = x := by simpa using h
    rw [e]
    simp [hx]
  | a :: l, i + 1, x, h, hn, hx => by
    have h' : l[i]? = some x := by simpa using h
    rw [List.take_succ_cons, List.find?_cons] at hn
    cases e : p a with
    | true => rw [e] at hn; cases hn
    | false =>
      rw [e] at hn
      rw [List.find?_cons, e]
      exact find_stop h' hn hx
theorem find_go {α : Type} {p : α → Bool} {l : List α} {i : Nat} {x : α} (h : l[i]? = some x) (hn : (l.take i).find? p = none) (hx : p x = false) : (l.take (i + 1)).find? p = none := by
  rw [List.take_add_one, h, List.find?_append, hn]
  simp [hx]
theorem D.eqv_self {d : D} (h : d.cmp = true) : d.eqv d = true := by
  unfold D.cmp at h
  rw [Bool.and_eq_true] at h
  exact SeqAt.eqv_refl _ (SeqAt.canLay_of_shaped h.2)
theorem dQ_cmp (q : Int × Int) : (dQ q).cmp = true := rfl

/-! ### texts -/
def sI (n : Int) : Str := Str.ofString (toString n)
def cutS (t y : Str) : List Str := (spl (tl y) 0 [] (tl t)).map fun l => ⟨l.toArray⟩
theorem split_cut {t y : Str} (hy : tl y ≠ []) (hk : y.cps.all (· < 256) = true) : Txt.split t y = cutS t y := by
  refine map_tl_inj ?_
  rw [split_spl t y hy (kind_ok hk)]
  unfold cutS
  rw [List.map_map]
  have : (tl ∘ fun l : List Nat => (⟨l.toArray⟩ : Str)) = id := by funext l; rfl
  rw [this, List.map_id]
theorem split_slash (t : Str) : Txt.split t "/" = cutS t "/" := split_cut (by decide) (by decide +kernel)
theorem str_empty_app (x : Str) : Str.empty ++ x = x := ext_tl (by rw [tl_append]; rfl)
theorem str_app_assoc (x y z : Str) : x ++ y ++ z = x ++ (y ++ z) := ext_tl (by rw [tl_append, tl_append, tl_append, tl_append, List.append_assoc])
theorem str_len_app (x y : Str) : (x ++ y).length = x.length + y.length := by rw [len_tl, len_tl, len_tl, tl_append, List.length_append]
def dig (c : Nat) : Bool := decide (c ∈ ("0123456789" : Str).cps.toList)
theorem dig_iff {c : Nat} : dig c = true ↔ 48 ≤ c ∧ c ≤ 57 := by
  have e : ("0123456789" : Str).cps.toList = [48, 49, 50, 51, 52, 53, 54, 55, 56, 57] := by decide
  unfold dig
  rw [e]
  simp
  omega
theorem tl_sI (n : Nat) : tl (sI (n : Int)) = numL n := tl_num n
theorem sI_len {n k : Nat} (hk : 0 < k) (h : n < 10 ^ k) : (sI (n : Int)).length ≤ k := by
  rw [len_tl, tl_sI]
  exact numL_len hk h
theorem numL_head (n : Nat) : 0 < n → ∃ c r, numL n = c :: r ∧ c ≠ 48 := by
  induction n using Nat.strongRecOn with
  | _ n ih =>
    intro h0
    by_cases h : n < 10
    · exact ⟨48 + n, [], numL_lt h, by omega⟩
    · obtain ⟨c, r, e, hc⟩ := ih (n / 10) (by omega) (by omega)
      exact ⟨c, r ++ [48 + n % 10], by rw [numL_step (by omega), e]; rfl, hc⟩
/-- the first sign is 0 and there are more -/
def headZ (w : Str) : Bool := match w.cps.toList with
  | c :: _ => decide ((1 : Int) < (w.length : Int)) && decide ((⟨#[c]⟩ : Str) = "0")
  | [] => false
def badW (w : Str) : Bool := (decide (w = "") || decide ((30 : Int) < (w.length : Int))) || (w.cps.toList.any (fun c => !dig c) || headZ w)
def numWord (w : Str) : D := if badW w = true then .non else .int ((NumText.digitsVal w.cps.toList : Nat) : Int)
theorem numWord_sI {n : Nat} (h : n < 10 ^ 30) : numWord (sI (n : Int)) = .int n := by
  have e : (sI (n : Int)).cps.toList = numL n := tl_sI n
  have l := sI_len (k := 30) (by decide) h
  have ne : sI (n : Int) ≠ "" := fun z => by
    have := congrArg tl z
    rw [tl_sI] at this
    exact numL_ne n this
  have a : (numL n).any (fun c => !dig c) = false := by
    rw [List.any_eq_false]
    intro c hc
    have := numL_digits n c hc
    simp [dig_iff.mpr (by omega : 48 ≤ c ∧ c ≤ 57)]
  have z : headZ (sI (n : Int)) = false := by
    unfold headZ
    rw [e]
    by_cases h0 : 0 < n
    · obtain ⟨c, r, e2, hc⟩ := numL_head n h0
      rw [e2]
      have : ¬ ((⟨#[c]⟩ : Str) = "0") := fun q => by
        have := congrArg tl q
        have e3 : tl (⟨#[c]⟩ : Str) = [c] := rfl
        have e4 : tl ("0" : Str) = [48] := by decide
        rw [e3, e4] at this
        injection this with t
        exact hc t
      simp [this]
    · have h1 : n = 0 := by omega
      subst h1
      decide
  have b : badW (sI (n : Int)) = false := by
    unfold badW
    rw [e, a, z, decide_eq_false ne, decide_eq_false (by omega)]
    rfl
  unfold numWord
  rw [b, e, numL_val]
  rfl
theorem numWord_flat (w : Str) : numWord w = .non ∨ ∃ n : Nat, numWord w = .int n := by
  unfold numWord
  split
  · exact .inl rfl
  · exact .inr ⟨_, rfl⟩
theorem cut_one {n : Nat} : cutS (sI (n : Int)) "/" = [sI (n : Int)] := by
  rw [← split_slash]
  have e : Txt.join "/" [sI (n : Int)] = sI (n : Int) := by rw [join_eq]; rfl
  have z := split_join (y := "/") (s := 47) (S := []) (by decide) (by decide +kernel) (parts := [sI (n : Int)]) (by simp) (fun p hp => by
    simp at hp
    rw [hp, tl_sI]
    exact numL_free (by omega))
  rw [e] at z
  exact z
theorem cut_two {n m : Nat} : cutS (sI (n : Int) ++ "/" ++ sI (m : Int)) "/" = [sI (n : Int), sI (m : Int)] := by
  rw [← split_slash]
  have e : Txt.join "/" [sI (n : Int), sI (m : Int)] = sI (n : Int) ++ "/" ++ sI (m : Int) := by rw [join_eq]; rfl
  have z := split_join (y := "/") (s := 47) (S := []) (by decide) (by decide +kernel) (parts := [sI (n : Int), sI (m : Int)]) (by simp) (fun p hp => by
    simp at hp
    rcases hp with rfl | rfl <;> rw [tl_sI] <;> exact numL_free (by omega))
  rw [e] at z
  exact z
/-- what read_ratio tells: none: BadRatio -/
def readL : List D → Option (Int × Int)
  | [.int n] => some (n, 1)
  | [.int a, .int b] => if (decide (b < 2) || !decide (((Nat.gcd a.natAbs b.natAbs : Nat) : Int) = 1)) = true then none else some (a, b)
  | _ => none
def resL (l : List D) : Res := match readL l with
  | some q => .ok (dQ q)
  | none => .er "BadRatio"
def readR (t : Str) : Res := resL ((cutS t "/").map numWord)
/-- a text of a fit size -/
def okT (t : Str) : Bool := decide (t.length ≤ 1000) && (decide ((cutS t "/").length ≤ 100) && (cutS t "/").all fun w => decide (w.length ≤ 1000))
theorem flat_cmp : ∀ (l : List D), (∀ d ∈ l, d = .non ∨ ∃ n : Int, d = .int n) → D.pla l = true ∧ PyData.canLayAll0 (D.pys l) = true ∧ PyData.depthAll (D.pys l) ≤ 1
  | [], _ => ⟨rfl, rfl, by decide⟩
  | d :: l, h => by
    obtain ⟨a, b, c⟩ := flat_cmp l fun e he => h e (List.mem_cons_of_mem _ he)
    rcases h d List.mem_cons_self with rfl | ⟨n, rfl⟩
    · refine ⟨a, b, ?_⟩
      show max (PyData.depth .none) (PyData.depthAll (D.pys l)) ≤ 1
      have e : PyData.depth .none = 0 ∨ PyData.depth .none = 1 := by first | exact .inl rfl | exact .inr rfl
      omega
    · refine ⟨a, b, ?_⟩
      show max (PyData.depth (.int n)) (PyData.depthAll (D.pys l)) ≤ 1
      have e : PyData.depth (.int n) = 0 ∨ PyData.depth (.int n) = 1 := by first | exact .inl rfl | exact .inr rfl
      omega
theorem cmp_flat {l : List D} (h : ∀ d ∈ l, d = .non ∨ ∃ n : Int, d = .int n) : (D.lst l).cmp = true := by
  obtain ⟨a, b, c⟩ := flat_cmp l h
  have a' : (D.lst l).pl = true := a
  have b' : SeqAt.shaped (D.lst l).py = true := by
    show (PyData.canLayAll0 (D.pys l) && decide (PyData.depthAll (D.pys l) + 1 ≤ 64)) = true
    rw [b]
    simp
    omega
  unfold D.cmp
  rw [a', b']
  rfl
theorem words_flat (ws : List Str) : ∀ d ∈ ws.map numWord, d = .non ∨ ∃ n : Int, d = .int n := fun d hd => by
  obtain ⟨w, _, rfl⟩ := List.mem_map.mp hd
  rcases numWord_flat w with e | ⟨n, e⟩
  · exact .inl e
  · exact .inr ⟨n, e⟩
theorem words_ints : ∀ {l : List D}, (∀ d ∈ l, d = .non ∨ ∃ n : Int, d = .int n) → (l.any fun z => z.eqv .non) = false → ∃ ns : List Int, l = ns.map D.int
  | [], _, _ => ⟨[], rfl⟩
  | d :: l, h, ha => by
    rw [List.any_cons, Bool.or_eq_false_iff] at ha
    obtain ⟨ns, e⟩ := words_ints (fun e he => h e (List.mem_cons_of_mem _ he)) ha.2
    rcases h d List.mem_cons_self with rfl | ⟨n, rfl⟩
    · exact absurd ha.1 (by decide)
    · exact ⟨n :: ns, by rw [e]; rfl⟩
theorem ints_any : ∀ (ns : List Int), ((ns.map D.int).any fun z => z.eqv .non) = false
  | [] => rfl
  | n :: ns => by
    rw [List.map_cons, List.any_cons, ints_any ns]
    rfl
theorem cutS_ne (t y : Str) : cutS t y ≠ [] := by
  have : ∀ (S : List Nat) (l : List Nat) (k : Nat) (acc : List Nat), spl S k acc l ≠ [] := fun S l => by
    induction l with
    | nil => intro k acc; rw [spl_nil]; simp
    | cons c r ih =>
      intro k acc
      cases k with
      | zero =>
        unfold spl
        split
        · simp
        · exact ih _ _
      | succ k => exact ih k acc
  unfold cutS
  intro h
  exact this _ _ _ _ (List.map_eq_nil_iff.mp h)
theorem filter_tt {α : Type} (l : List α) : l.filter (fun _ => true) = l := by simp
theorem str_cons {w : Str} (h : w ≠ "") : ∃ c l, w.cps.toList = c :: l := by
  cases e : w.cps.toList with
  | nil => exact absurd (ext_tl (show tl w = tl "" from e.trans (by decide))) h
  | cons c l => exact ⟨c, l, rfl⟩
theorem numWord_1 {w : Str} (h : (decide (w = "") || decide ((30 : Int) < (w.length : Int))) = true) : numWord w = .non := if_pos (by unfold badW; rw [h]; rfl)
theorem numWord_2 {w : Str} (h : (w.cps.toList.any fun c => !dig c) = true) : numWord w = .non := if_pos (by unfold badW; rw [h, Bool.true_or, Bool.or_true])
theorem numWord_3 {w : Str} (h : headZ w = true) : numWord w = .non := if_pos (by unfold badW; rw [h, Bool.or_true, Bool.or_true])
theorem numWord_4 {w : Str} (h1 : (decide (w = "") || decide ((30 : Int) < (w.length : Int))) = false) (h2 : (w.cps.toList.any fun c => !dig c) = false) (h3 : headZ w = false) : numWord w = .int ((NumText.digitsVal w.cps.toList : Nat) : Int) := if_neg (by unfold badW; rw [h1, h2, h3]; decide)
theorem headZ_eq {w : Str} {c : Nat} {l : List Nat} (h : w.cps.toList = c :: l) : headZ w = (decide ((1 : Int) < (w.length : Int)) && decide ((⟨#[c]⟩ : Str) = "0")) := by unfold headZ; rw [h]
theorem int_of {w : Str} (h1 : (decide (w = "") || decide ((30 : Int) < (w.length : Int))) = false) (h2 : (w.cps.toList.any fun c => !dig c) = false) : intText? w = some ((NumText.digitsVal w.cps.toList : Nat) : Int) ∧ w.length ≤ 640 := by
  rw [Bool.or_eq_false_iff] at h1
  have a := of_decide_eq_false h1.1
  have b := of_decide_eq_false h1.2
  obtain ⟨c, l, e⟩ := str_cons a
  rw [List.any_eq_false] at h2
  exact ⟨PySem.intText_digits (fun c hc => dig_iff.mp (by simpa using h2 c hc)) (by rw [e]; simp) (by omega), by omega⟩
theorem resL_bad {l : List D} (hf : ∀ d ∈ l, d = .non ∨ ∃ n : Int, d = .int n) (h : ((l.any fun z => z.eqv .non) || decide ((2 : Int) < (l.length : Int))) = true) : resL l = .er "BadRatio" := by
  have : readL l = none := by
    match l, hf, h with
    | [], _, _ => rfl
    | [d], hf, h =>
      rcases hf d (by simp) with rfl | ⟨n, rfl⟩
      · rfl
      · exact absurd h (by simp [D.eqv, D.py, PyData.eqv])
    | [d, e], hf, h =>
      rcases hf d (by simp) with rfl | ⟨n, rfl⟩
      · rfl
      · rcases hf e (by simp) with rfl | ⟨m, rfl⟩
        · rfl
        · exact absurd h (by simp [D.eqv, D.py, PyData.eqv])
    | a :: b :: c :: r, _, _ => cases a <;> (first | rfl | (cases b <;> rfl))
  unfold resL
  rw [this]
theorem map_one {ns : List Int} (h : ((ns.map D.int).length : Int) = 1) : ∃ a, ns = [a] := by
  match ns, h with
  | [a], _ => exact ⟨a, rfl⟩
  | [], h => exact absurd h (by decide)
  | a :: b :: r, h => simp at h; omega
theorem map_two {ns : List Int} (h1 : ¬ (2 : Int) < ((ns.map D.int).length : Int)) (h2 : ¬ ((ns.map D.int).length : Int) = 1) (h3 : ns.map D.int ≠ []) : ∃ a b, ns = [a, b] := by
  match ns, h1, h2, h3 with
  | [], _, _, h => exact absurd rfl h
  | [a], _, h, _ => exact absurd rfl h
  | [a, b], _, _, _ => exact ⟨a, b, rfl⟩
  | a :: b :: c :: r, h, _, _ => simp at h; omega

/-! ### ratios as texts -/
def wrS (n d : Int) : Str := if d = 1 then sI n else sI n ++ "/" ++ sI d
theorem wrS_1 {n d : Int} (h : d = 1) : wrS n d = sI n := if_pos h
theorem wrS_2 {n d : Int} (h : ¬ d = 1) : wrS n d = Str.empty ++ sI n ++ "/" ++ sI d := by
  rw [str_empty_app]
  exact if_neg h
theorem neg_sI {n : Nat} (h : 0 < n) : sI (0 - (n : Int)) = "-" ++ sI (n : Int) := by
  obtain ⟨m, rfl⟩ : ∃ m, n = m + 1 := ⟨n - 1, by omega⟩
  refine ext_tl ?_
  rw [tl_append, tl_sI]
  unfold sI
  rw [tl_ofString, show (0 - ((m + 1 : Nat) : Int)) = Int.negSucc m by omega]
  have e : (toString (Int.negSucc m)).toList = '-' :: (Nat.repr (m + 1)).toList := by
    show (("-" : String) ++ Nat.repr (m + 1)).toList = _
    rw [String.toList_append]
    rfl
  rw [e, List.map_cons]
  have e2 : tl (Str.ofString (toString ((m + 1 : Nat) : Int))) = (Nat.repr (m + 1)).toList.map Char.toNat := tl_ofString _
  have e3 := tl_num (m + 1)
  rw [e2] at e3
  rw [e3]
  rfl
theorem wrS_neg {n : Nat} {d : Int} (h : 0 < n) : wrS (0 - (n : Int)) d = "-" ++ wrS n d := by
  unfold wrS
  rw [neg_sI h]
  split
  · rfl
  · rw [str_app_assoc, str_app_assoc, str_app_assoc]
theorem wrS_read {n d : Nat} (hn : n < 10 ^ 30) (hd : d < 10 ^ 30) (h0 : 0 < d) (hg : Nat.gcd n d = 1) : readR (wrS n d) = .ok (dQ (n, d)) ∧ okT (wrS n d) = true := by
  have l1 := sI_len (k := 30) (by decide) hn
  have l2 := sI_len (k := 30) (by decide) hd
  by_cases h : (d : Int) = 1
  · rw [wrS_1 h]
    refine ⟨?_, ?_⟩
    · unfold readR
      rw [cut_one, h]
      show resL [numWord (sI n)] = _
      rw [numWord_sI hn]
      rfl
    · unfold okT
      rw [cut_one]
      simp
      omega
  · have e : wrS n d = sI n ++ "/" ++ sI d := if_neg h
    rw [e]
    refine ⟨?_, ?_⟩
    · unfold readR
      rw [cut_two]
      show resL [numWord (sI n), numWord (sI d)] = _
      rw [numWord_sI hn, numWord_sI hd]
      have c : (decide ((d : Int) < 2) || !decide (((Nat.gcd (n : Int).natAbs (d : Int).natAbs : Nat) : Int) = 1)) = false := by
        rw [Int.natAbs_natCast, Int.natAbs_natCast, hg, decide_eq_false (by omega)]
        rfl
      have q : readL [.int (n : Int), .int (d : Int)] = some ((n : Int), (d : Int)) := if_neg (by rw [c]; decide)
      unfold resL
      rw [q]
    · unfold okT
      rw [cut_two, str_len_app, str_len_app]
      have : ("/" : Str).length = 1 := by decide
      rw [this]
      simp
      omega
def wrongL (k : Str) : List Str := ["", "-3", "+3", "03", "3/1", "3/0", k ++ "/" ++ k, "2/4", " 3", "3 ", "3/", "/3", "1/2/3", "1.5", "3/02", repS "1" 31, "1/" ++ repS "3" 31, "x", "0/" ++ k, "0/1", "3\n", "3 /4"]
def wrongT (t : Str) : Bool := okT t && (readL ((cutS t "/").map numWord)).isNone
theorem wrong_all : ∀ m : Nat, m < 50 → (wrongL (sI ((2 + m : Nat) : Int))).all wrongT = true := by decide +kernel
theorem wrongT_out {t : Str} (h : wrongT t = true) : okT t = true ∧ readR t = .er "BadRatio" := by
  unfold wrongT at h
  rw [Bool.and_eq_true] at h
  refine ⟨h.1, ?_⟩
  unfold readR resL
  cases e : readL ((cutS t "/").map numWord) with
  | none => rfl
  | some q => rw [e] at h; cases h.2
theorem wrong_pick {m : Int} (hm : 0 ≤ m ∧ m < 50) {j : Int} (hj : 0 ≤ j ∧ j < 22) : ∃ t, L2.atI ((wrongL (sI (2 + m))).map D.str) j = some (.str t) ∧ okT t = true ∧ Res.er "BadRatio" = readR t := by
  obtain ⟨k, rfl⟩ := Int.eq_ofNat_of_zero_le hm.1
  obtain ⟨i, rfl⟩ := Int.eq_ofNat_of_zero_le hj.1
  have a := wrong_all k (by omega)
  rw [List.all_eq_true] at a
  have e : ((2 + k : Nat) : Int) = 2 + (k : Int) := by omega
  rw [e] at a
  have hl : i < (wrongL (sI (2 + (k : Int)))).length := by
    show i < 22
    omega
  have b := a _ (List.getElem_mem hl)
  obtain ⟨b1, b2⟩ := wrongT_out b
  exact ⟨_, atI_nat (by rw [List.getElem?_map, List.getElem?_eq_getElem hl]; rfl), b1, b2.symm⟩
def c1 : Int := 111111111111111111111111111111
def c2 : Int := 222222222222222222222222222222
theorem c1_int : intText? (repS "1" 30) = some c1 := by decide +kernel
theorem c2_int : intText? (repS "2" 30) = some c2 := by decide +kernel
theorem c1_read : okT (repS "1" 30) = true ∧ readL ((cutS (repS "1" 30) "/").map numWord) = some (c1, 1) := by decide +kernel
theorem c2_read : okT ("1/" ++ repS "2" 30) = true ∧ readL ((cutS ("1/" ++ repS "2" 30) "/").map numWord) = some (1, c2) := by decide +kernel
theorem c1_res : Res.ok (dQ (c1, 1)) = readR (repS "1" 30) := by
  unfold readR resL
  rw [c1_read.2]
theorem c2_res : Res.ok (dQ (1, c2)) = readR ("1/" ++ repS "2" 30) := by
  unfold readR resL
  rw [c2_read.2]
theorem qmk_nn {n d : Int} (hn : 0 ≤ n) (hd : 0 < d) : ∃ x y : Nat, qmk n d = ((x : Int), (y : Int)) ∧ (x : Int) ≤ n ∧ (y : Int) ≤ d ∧ 0 < y ∧ Nat.gcd x y = 1 := by
  have f := qmk_facts (n := n) (d := d) (by omega)
  generalize qmk n d = z at f
  obtain ⟨x, y⟩ := z
  have p : 0 < y := f.pos
  have q : 0 < qc n d := by
    rcases Int.lt_trichotomy (qc n d) 0 with z | z | z
    · have := Int.mul_neg_of_neg_of_pos z p
      have e : qc n d * y = d := f.e2
      omega
    · have e := f.e2
      rw [z, Int.zero_mul] at e
      omega
    · exact z
  have x0 : 0 ≤ x := by
    rcases Int.lt_or_le x 0 with z | z
    · have := Int.mul_neg_of_pos_of_neg q z
      have e : qc n d * x = n := f.e1
      omega
    · exact z
  obtain ⟨a, rfl⟩ := Int.eq_ofNat_of_zero_le x0
  obtain ⟨b, rfl⟩ := Int.eq_ofNat_of_zero_le (show 0 ≤ y by omega)
  have l1 : ((a : Int)).natAbs ≤ n.natAbs := f.l1
  have l2 : ((b : Int)).natAbs ≤ d.natAbs := f.l2
  have g : Nat.gcd ((a : Int)).natAbs ((b : Int)).natAbs = 1 := f.one
  exact ⟨a, b, rfl, by omega, by omega, by omega, g⟩
theorem fit3 {a c : Str} (ha : a.length ≤ 1000) (hc : c.length ≤ 1000) : fitS Str.empty [a, "/", c] := by
  have l1 : ("/" : Str).length = 1 := by decide
  have l2 : 1000000 ≤ sizeLine := by decide
  refine ⟨?_, ?_, ?_, trivial⟩ <;> rw [str_empty_app] <;> (try rw [str_len_app]) <;> (try rw [str_len_app]) <;> omega
theorem lg_of {n : Int} (h : n.natAbs < 2 ^ 1000) : n.natAbs.log2 < 1920 := by
  by_cases h0 : n.natAbs = 0
  · rw [h0]; decide
  · exact Nat.lt_of_lt_of_le ((Nat.log2_lt h0).mpr h) (by decide)
structure WOk (n d : Int) : Prop where
  a1 : (Str.ofString (toString n)).length ≤ 1000
  a2 : (Str.ofString (toString d)).length ≤ 1000
  b1 : n.natAbs.log2 < 1920
  b2 : d.natAbs.log2 < 1920
theorem sml1000 {n : Int} (h : -100000000000000 ≤ n ∧ n ≤ 100000000000000) : n.natAbs.log2 < 1920 := lg_of (Nat.lt_of_lt_of_le (show n.natAbs < 2 ^ 100 by omega) (Nat.pow_le_pow_right (by decide) (by decide)))
theorem WOk_pos {x y : Nat} (hx : x < 10000000000) (hy : y < 10000000000) : WOk x y :=
  ⟨Nat.le_trans (sI_len (k := 10) (by decide) (by omega)) (by decide), Nat.le_trans (sI_len (k := 10) (by decide) (by omega)) (by decide), sml1000 (by omega), sml1000 (by omega)⟩
theorem WOk_neg {x y : Nat} (hx : x < 10000000000) (hy : y < 10000000000) : WOk (0 - (x : Int)) y := by
  refine ⟨?_, (WOk_pos hx hy).a2, sml1000 (by omega), sml1000 (by omega)⟩
  by_cases h : 0 < x
  · have e : Str.ofString (toString (0 - (x : Int))) = "-" ++ sI (x : Int) := neg_sI h
    rw [e, str_len_app]
    have := sI_len (n := x) (k := 10) (by decide) (by omega)
    have : ("-" : Str).length = 1 := by decide
    omega
  · have e : x = 0 := by omega
    subst e
    decide
theorem wrS_len {x y : Nat} (hx : x < 10000000000) (hy : y < 10000000000) : (wrS x y).length ≤ 30 := by
  have a := sI_len (n := x) (k := 10) (by decide) (by omega)
  have b := sI_len (n := y) (k := 10) (by decide) (by omega)
  have l1 : ("/" : Str).length = 1 := by decide
  unfold wrS
  split
  · omega
  · rw [str_len_app, str_len_app]
    omega
theorem readQ_two {a b : Int} : readL [.int a, .int b] = if (decide (b < 2) || !decide (((Nat.gcd a.natAbs b.natAbs : Nat) : Int) = 1)) = true then none else some (a, b) := rfl
theorem resL_no {a b : Int} (h : (decide (b < 2) || !decide (((Nat.gcd a.natAbs b.natAbs : Nat) : Int) = 1)) = true) : resL ([a, b].map D.int) = .er "BadRatio" := by
  have q : readL ([a, b].map D.int) = none := if_pos h
  unfold resL
  rw [q]
theorem resL_yes {a b : Int} (h : (decide (b < 2) || !decide (((Nat.gcd a.natAbs b.natAbs : Nat) : Int) = 1)) = false) : resL ([a, b].map D.int) = .ok (dQ (a, b)) := by
  have q : readL ([a, b].map D.int) = some (a, b) := if_neg (by rw [h]; decide)
  unfold resL
  rw [q]
theorem okT_out {t : Str} (h : okT t = true) : t.length ≤ 1000 ∧ (cutS t "/").length ≤ 100 ∧ ∀ w ∈ Txt.split t "/", w.length ≤ 1000 := by
  rw [split_slash]
  unfold okT at h
  simpa using h
theorem sI_2 {m : Int} (h : 0 ≤ m ∧ m < 50) : (Str.ofString (toString (2 + m))).length ≤ 10 := by
  obtain ⟨k, rfl⟩ := Int.eq_ofNat_of_zero_le h.1
  have e : (2 : Int) + (k : Int) = ((2 + k : Nat) : Int) := by omega
  rw [e]
  exact sI_len (k := 10) (by decide) (by omega)

local macro_rules | `(tactic| walk_at "vis") => `(tactic| first | exact Or.inl rfl | exact Or.inr (Or.inl rfl) | exact Or.inr (Or.inr rfl))
local macro_rules | `(tactic| walk_at "loc") => `(tactic| first | exact Or.inl rfl | exact Or.inr rfl)
local macro_rules | `(tactic| walk_at "mul") => `(tactic| first | assumption | exact wide_small (by omega) (by omega))
local macro_rules | `(tactic| walk_at "div") => `(tactic| first | assumption | exact div_small (by omega) (by omega))
local macro_rules | `(tactic| walk_at "pos") => `(tactic| first | omega | (rw [len_ints]; assumption) | (simp only [List.length_map, decide_eq_true_eq] at *; omega))
local macro_rules | `(tactic| walk_at "ne0") => `(tactic| first | assumption | omega)
local macro_rules | `(tactic| walk_at "cmp") => `(tactic| first | assumption | rfl)
local macro_rules | `(tactic| walk_at "ow") => `(tactic| first | exact ow_add | exact ow_sub | exact ow_mulS (n := 30) (by decide) | exact ow_mulS (n := 31) (by decide) | exact ow_mul (by walk_at "mul") | exact ow_mod (by walk_at "pos") | exact ow_fdiv (by walk_at "div") | exact ow_fdivN (by walk_at "div") | exact ow_modN (by walk_at "ne0") | exact ow_lt | exact ow_le | exact ow_gt | exact ow_ge | exact ow_eqI | exact ow_neI | exact ow_eqS | exact ow_neS | exact ow_inC | exact ow_notinC | exact ow_isB | exact ow_isntB | exact ow_is | exact ow_isnt | exact ow_addS (by walk_at "sz") | exact ow_eq (by assumption) (by walk_at "cmp") (by walk_at "cmp") | exact ow_ne (by assumption) (by walk_at "cmp") (by walk_at "cmp") | exact ow_in (by assumption) (by walk_at "cmp") (by walk_at "cmp") | exact ow_notin (by assumption) (by walk_at "cmp") (by walk_at "cmp"))
local macro_rules | `(tactic| walk_at "uw") => `(tactic| exact uw_neg)
local macro_rules | `(tactic| walk_at "ix") => `(tactic| first | rfl | assumption | exact ints_at (by walk_at "bnd") | exact pick4 (by walk_at "bnd") | exact pick2 (by walk_at "bnd"))
local macro_rules | `(tactic| walk_at "bnd") => `(tactic| first | assumption | (simp only [List.length_cons, List.length_nil]; omega) | omega | (rw [len_ints]; assumption) | (simp only [List.length_map, decide_eq_true_eq] at *; omega))
local macro_rules | `(tactic| walk_at "cw") => `(tactic| first | exact cw_lenL | exact cw_lenF | exact cw_lenT | exact cw_intI | exact cw_intB | exact cw_abs | exact cw_gcd | exact cw_isiInt (by walk_at "cmp") | exact cw_isiBool (by walk_at "cmp") | exact cw_isiTuple (by walk_at "cmp") | exact cw_isiStr (by walk_at "cmp") | exact cw_isiList (by walk_at "cmp") | exact cw_intS (by walk_at "its") (by walk_at "sz") | exact cw_strI (by walk_at "lg") | exact cw_lenS (by walk_at "sz") | exact cw_min (by assumption) | exact cw_max (by assumption))
local macro_rules | `(tactic| walk_at "rg") => `(tactic| first | (constructor <;> omega) | (refine ⟨?_, ?_, ?_, ?_⟩ <;> omega))
local macro_rules | `(tactic| walk_at "sz") => `(tactic| first | assumption | decide | omega)
local macro_rules | `(tactic| walk_at "leaf") => `(tactic| first | exact rfl | exact Or.inl rfl | exact Or.inr rfl | assumption)
local macro_rules | `(tactic| walk_at "sp") => `(tactic| assumption)
local macro_rules | `(tactic| walk_at "its") => `(tactic| assumption)
local macro_rules | `(tactic| walk_at "lg") => `(tactic| assumption)
local macro_rules | `(tactic| walk_at "fit") => `(tactic| first | assumption | exact fit3 (by assumption) (by assumption))

local macro_rules | `(tactic| walk_at "sz") => `(tactic| first | assumption | omega | (simp only [str_len_app]; omega) | decide)

def topS (i : Nat) : Stmt := PySem.Challenge.pw_watchshifts_k01_ratios_as_texts.main.body.getD i (.Pass ⟨0, 0, 0, 0⟩)
structure Txt (K : PySem.W.Frag) (mg : Str → Option Value) : Prop where
  b_len : mg "len" = none
  b_int : mg "int" = none
  b_str : mg "str" = none
  b_isinstance : mg "isinstance" = none
  b_bool : mg "bool" = none
  b_abs : mg "abs" = none
  b_range : mg "range" = none
  g_gcd : mg "gcd" = some (.builtin "math.gcd")
  x_BadRatio : ExOk K mg "BadRatio"
  e_BadRatio_BadRatio : PySem.W.exmOne K (.ref (exA mg "BadRatio")) (.ref (exA mg "BadRatio")) = some true
section
variable {P : Program} {w : World} {K : PySem.W.Frag} {mg : Str → Option Value} {base : Heap}

abbrev s_whole : Stmt := topS 5
theorem sc_whole : FnScope ["n"] ["n"] (defScope s_whole) := ⟨rfl, rfl, rfl, by decide +kernel, rfl, by decide +kernel, by decide +kernel⟩
def Sp_whole (ds : List D) (r : Res) : Prop := ∃ n : Int, ds = [.int n] ∧ r = .ok (dQ (n, 1))
set_option maxHeartbeats 4000000 in
theorem ok_whole {f : Addr} {fd : FuncData} (F : Fun K "whole" "whole" s_whole f fd) (T : Txt K mg)  : FnD P w K mg base 1 f fd ["n"] Sp_whole := by
  refine fnd_of F sc_whole (fun ds r h => by obtain ⟨n, rfl, rfl⟩ := h; first | rfl | simp) fun cdv A outer s H E ds r B h => ?_
  have hu := B.hu
  have hu65 := B.hu65
  have hcalm := B.hc
  obtain ⟨n, rfl, rfl⟩ := h
  refine jss_cons (js_ret (je_tup (ja_cons (W := WD E) (je_var (i := 0) rfl rfl (by walk_at "vis")) (ja_cons (W := WD E) je_int ja_nil))) ?_)
  exact rfl
local macro_rules | `(tactic| walk_at "sp_whole") => `(tactic| exact ⟨_, rfl, rfl⟩)
abbrev s_write_ratio : Stmt := topS 6
theorem sc_write_ratio : FnScope ["ratio"] ["ratio"] (defScope s_write_ratio) := ⟨rfl, rfl, rfl, by decide +kernel, rfl, by decide +kernel, by decide +kernel⟩
def Sp_write_ratio (ds : List D) (r : Res) : Prop := ∃ n d : Int, ds = [dQ (n, d)] ∧ WOk n d ∧ r = .ok (.str (wrS n d))
set_option maxHeartbeats 4000000 in
theorem ok_write_ratio {f : Addr} {fd : FuncData} (F : Fun K "write_ratio" "write_ratio" s_write_ratio f fd) (T : Txt K mg)  : FnD P w K mg base 1 f fd ["ratio"] Sp_write_ratio := by
  refine fnd_of F sc_write_ratio (fun ds r h => by obtain ⟨n, d, rfl, hW, rfl⟩ := h; first | rfl | simp) fun cdv A outer s H E ds r B h => ?_
  have hu := B.hu
  have hu65 := B.hu65
  have hcalm := B.hc
  obtain ⟨n, d, rfl, hW, rfl⟩ := h
  have w1 := hW.a1
  have w2 := hW.a2
  have w3 := hW.b1
  have w4 := hW.b2
  refine jss_cons (js_if (jt_cmp (jw_of (W := WD E) (je_ixT (je_var (i := 0) rfl rfl (by walk_at "vis")) (jw_of (W := WD E) je_int) (by walk_at "ix"))) (jw_of (W := WD E) je_int) (by walk_at "ow") (nomark _)) (fun hc1 => ?_) (fun hc1 => ?_))
  · refine jss_cons (js_ret (je_callTy (jb_cons (jw_of (W := WD E) (je_ixT (je_var (i := 0) rfl rfl (by walk_at "vis")) (jw_of (W := WD E) je_int) (by walk_at "ix"))) jb_nil) (by walk_at "cw") rfl T.b_str bt_str) ?_)
    rw [wrS_1 (of_decide_eq_true hc1)]
    exact rfl
  · refine jss_nil ?_
    refine jss_cons (js_ret (je_fstr (.int (je_ixT (je_var (i := 0) rfl rfl (by walk_at "vis")) (jw_of (W := WD E) je_int) (by walk_at "ix")) (by walk_at "lg") (.lit (.int (je_ixT (je_var (i := 0) rfl rfl (by walk_at "vis")) (jw_of (W := WD E) je_int) (by walk_at "ix")) (by walk_at "lg") .nil))) (by walk_at "fit")) ?_)
    rw [wrS_2 (of_decide_eq_false hc1)]
    exact rfl
local macro_rules | `(tactic| walk_at "sp_write_ratio") => `(tactic| exact ⟨_, _, rfl, (by assumption), rfl⟩)
abbrev s_number_word : Stmt := topS 7
theorem sc_number_word : FnScope ["word", "char"] ["word"] (defScope s_number_word) := ⟨rfl, rfl, rfl, by decide +kernel, rfl, by decide +kernel, by decide +kernel⟩
def Sp_number_word (ds : List D) (r : Res) : Prop := ∃ w : Str, ds = [.str w] ∧ w.length ≤ 1000 ∧ r = .ok (numWord w)
set_option maxHeartbeats 4000000 in
theorem ok_number_word {f : Addr} {fd : FuncData} (F : Fun K "number_word" "number_word" s_number_word f fd) (T : Txt K mg)  : FnD P w K mg base 1 f fd ["word"] Sp_number_word := by
  refine fnd_of F sc_number_word (fun ds r h => by obtain ⟨w, rfl, hw, rfl⟩ := h; first | rfl | simp) fun cdv A outer s H E ds r B h => ?_
  have hu := B.hu
  have hu65 := B.hu65
  have hcalm := B.hc
  obtain ⟨w, rfl, hw, rfl⟩ := h
  have hz : w.length ≤ sizeLine := Nat.le_trans hw (by decide)
  refine jss_cons (js_if (jt_p (jp_or (jt_cmp (jw_of (W := WD E) (je_var (i := 0) rfl rfl (by walk_at "vis"))) (jw_of (W := WD E) je_str) (by walk_at "ow") (nomark _)) (fun hs0 => (jp_or1 (jt_cmp (jw_of (W := WD E) (je_callB (jb_cons (jw_of (W := WD E) (je_var (i := 0) rfl rfl (by walk_at "vis"))) jb_nil) (by walk_at "cw") rfl T.b_len bt_len)) (jw_of (W := WD E) je_int) (by walk_at "ow") (nomark _)))))) (fun hc1 => ?_) (fun hc1 => ?_))
  · refine jss_cons (js_ret je_non ?_)
    rw [numWord_1 hc1]
    exact rfl
  · refine jss_nil ?_
    refine jss_cons (js_forS B.po B.hc (je_var (i := 0) rfl rfl (by walk_at "vis")) (fun i ρ1 => (∃ y1 : Cell, ρ1 = [.fz (.str w), y1]) ∧ (w.cps.toList.take i).any (fun c => !dig c) = false) ?_ ?_ ?_)
    · exact ⟨⟨_, rfl⟩, rfl⟩
    · rintro i c ρ1 hcx ⟨⟨y1, rfl⟩, hf⟩
      have hx : w.cps.toList[i]? = some c := by rw [Array.getElem?_toList]; exact hcx
      refine ⟨_, (jg_name (i := 1) B.nd rfl (by walk_at "loc")), ?_⟩
      refine jss_cons (js_if (jt_cmp (jw_of (W := WD E) (je_var (i := 1) rfl rfl (by walk_at "vis"))) (jw_of (W := WD E) je_str) (by walk_at "ow") rfl) (fun hc2 => ?_) (fun hc2 => ?_))
      · refine jss_cons (js_ret je_non ?_)
        rw [numWord_2 (any_stop hx hc2)]
        exact rfl
      · refine jss_nil ?_
        refine jss_nil ?_
        exact ⟨⟨_, rfl⟩, any_go hx hf hc2⟩
    · rintro ρ1 ⟨⟨y1, rfl⟩, hf⟩
      rw [List.take_of_length_le (by simp)] at hf
      obtain ⟨c, l, hcl⟩ := str_cons (w := w) (fun z => by rw [z] at hc1; exact absurd hc1 (by decide))
      have hat : w.length ≤ sizeLine ∧ L2.atI w.cps.toList 0 = some c := ⟨hz, by rw [hcl]; exact (show L2.atI (c :: l) ((0 : Nat) : Int) = some c from atI_nat rfl)⟩
      have hit := int_of hc1 hf
      obtain ⟨hit, hit2⟩ := hit
      refine jss_cons (js_if (jt_p (jp_and (jt_cmp (jw_of (W := WD E) (je_callB (jb_cons (jw_of (W := WD E) (je_var (i := 0) rfl rfl (by walk_at "vis"))) jb_nil) (by walk_at "cw") rfl T.b_len bt_len)) (jw_of (W := WD E) je_int) (by walk_at "ow") (nomark _)) (fun hs0 => (jp_and1 (jt_cmp (jw_of (W := WD E) (je_ixS (jw_of (W := WD E) (je_var (i := 0) rfl rfl (by walk_at "vis"))) (jw_of (W := WD E) je_int) (by walk_at "ix"))) (jw_of (W := WD E) je_str) (by walk_at "ow") (nomark _)))))) (fun hc3 => ?_) (fun hc3 => ?_))
      · refine jss_cons (js_ret je_non ?_)
        rw [numWord_3 ((headZ_eq hcl).trans hc3)]
        exact rfl
      · refine jss_nil ?_
        refine jss_cons (js_ret (je_callTy (jb_cons (jw_of (W := WD E) (je_var (i := 0) rfl rfl (by walk_at "vis"))) jb_nil) (by walk_at "cw") rfl T.b_int bt_int) ?_)
        rw [numWord_4 hc1 hf ((headZ_eq hcl).trans hc3)]
        exact rfl
set_option hygiene false in
local macro_rules | `(tactic| walk_at "sp_number_word") => `(tactic| first | exact ⟨_, rfl, (by first | assumption | exact hw _ (by assumption)), rfl⟩)
abbrev s_read_ratio : Stmt := topS 8
theorem sc_read_ratio : FnScope ["text", "numbers", "word"] ["text"] (defScope s_read_ratio) := ⟨rfl, rfl, rfl, by decide +kernel, rfl, by decide +kernel, by decide +kernel⟩
def Sp_read_ratio (ds : List D) (r : Res) : Prop := ∃ t : Str, ds = [.str t] ∧ okT t = true ∧ r = readR t
set_option maxHeartbeats 4000000 in
theorem ok_read_ratio {f : Addr} {fd : FuncData} (F : Fun K "read_ratio" "read_ratio" s_read_ratio f fd) (T : Txt K mg) (d_number_word : DefOk P w K mg base 1 "number_word" Sp_number_word) (d_whole : DefOk P w K mg base 1 "whole" Sp_whole) : FnD P w K mg base 2 f fd ["text"] Sp_read_ratio := by
  refine fnd_of F sc_read_ratio (fun ds r h => by obtain ⟨t, rfl, ht, rfl⟩ := h; first | rfl | simp) fun cdv A outer s H E ds r B h => ?_
  have hu := B.hu
  have hu65 := B.hu65
  have hcalm := B.hc
  obtain ⟨t, rfl, ht, rfl⟩ := h
  obtain ⟨t1, t2, hw⟩ := okT_out ht
  have hz : t.length + 2 ≤ sizeLine := Nat.le_trans (show t.length + 2 ≤ 2000 by omega) (by decide)
  have hz2 : (Txt.split t "/").length < sizeLine := by rw [split_slash]; exact Nat.lt_of_le_of_lt t2 (by decide)
  refine jss_cons (js_lc1 (k := 1) (i := 2) B.hc B.nd rfl rfl (sw_true rfl rfl rfl (by decide +kernel)) (je_fz (je_split (je_var (i := 0) rfl rfl (by walk_at "vis")) je_str (by decide) (by walk_at "sz"))) rfl (blkOk_by (N := ["text", "numbers", "word"]) (sc := defScope s_read_ratio) (by decide +kernel)) (fun _ _ _ _ _ => pg_name (i := 2) B.nd rfl (Or.inl rfl)) (p := fun _ => true) (fun _ _ _ _ _ _ _ => jts_nil) (fun a ha _ _ _ _ _ _ => (je_call takes0 B.hr d_number_word (ja_cons (W := W0) (je_var (i := 2) rfl rfl (by walk_at "vis")) ja_nil) (by walk_at "sp_number_word") (by decide) rfl)) (by walk_at "sz") ?_)
  refine jss_frz (i := 1) rfl ?_
  rw [filter_tt, split_slash]
  have hflat := words_flat (cutS t "/")
  have hcmp := cmp_flat hflat
  have hne : (cutS t "/").map numWord ≠ [] := fun z => cutS_ne t "/" (List.map_eq_nil_iff.mp z)
  have hR : readR t = resL ((cutS t "/").map numWord) := rfl
  rw [hR]
  generalize (cutS t "/").map numWord = l at hflat hcmp hne ⊢
  refine jss_cons (js_if (jt_p (jp_or (jt_cmp (jw_of (W := WD E) je_non) (jw_of (W := WD E) (je_var (i := 1) rfl rfl (by walk_at "vis"))) (by walk_at "ow") rfl) (fun hs0 => (jp_or1 (jt_cmp (jw_of (W := WD E) (je_callB (jb_cons (jw_of (W := WD E) (je_var (i := 1) rfl rfl (by walk_at "vis"))) jb_nil) (by walk_at "cw") rfl T.b_len bt_len)) (jw_of (W := WD E) je_int) (by walk_at "ow") (nomark _)))))) (fun hc1 => ?_) (fun hc1 => ?_))
  · refine jss_cons (js_raiseX B.tk B.hc T.x_BadRatio rfl ?_)
    exact resL_bad hflat hc1
  · refine jss_nil ?_
    rw [Bool.or_eq_false_iff] at hc1
    obtain ⟨ns, rfl⟩ := words_ints hflat hc1.1
    refine jss_cons (js_if (jt_cmp (jw_of (W := WD E) (je_callB (jb_cons (jw_of (W := WD E) (je_var (i := 1) rfl rfl (by walk_at "vis"))) jb_nil) (by walk_at "cw") rfl T.b_len bt_len)) (jw_of (W := WD E) je_int) (by walk_at "ow") (nomark _)) (fun hc2 => ?_) (fun hc2 => ?_))
    · obtain ⟨a, rfl⟩ := map_one (of_decide_eq_true hc2)
      refine jss_cons (js_ret (je_call B.tk B.hr d_whole (ja_cons (W := WD E) (je_ixL (je_var (i := 1) rfl rfl (by walk_at "vis")) (jw_of (W := WD E) je_int) (by walk_at "ix")) ja_nil) (by walk_at "sp_whole") (by decide) rfl) ?_)
      exact rfl
    · refine jss_nil ?_
      obtain ⟨a, b, rfl⟩ := map_two (of_decide_eq_false hc1.2) (of_decide_eq_false hc2) hne
      refine jss_cons (js_if (jt_p (jp_or (jt_cmp (jw_of (W := WD E) (je_ixL (je_var (i := 1) rfl rfl (by walk_at "vis")) (jw_of (W := WD E) je_int) (by walk_at "ix"))) (jw_of (W := WD E) je_int) (by walk_at "ow") (nomark _)) (fun hs0 => (jp_or1 (jt_cmp (jw_of (W := WD E) (je_callBf (jb_cons (jw_of (W := WD E) (je_ixL (je_var (i := 1) rfl rfl (by walk_at "vis")) (jw_of (W := WD E) je_int) (by walk_at "ix"))) (jb_cons (jw_of (W := WD E) (je_ixL (je_var (i := 1) rfl rfl (by walk_at "vis")) (jw_of (W := WD E) je_int) (by walk_at "ix"))) jb_nil)) (by walk_at "cw") rfl T.g_gcd)) (jw_of (W := WD E) je_int) (by walk_at "ow") (nomark _)))))) (fun hc3 => ?_) (fun hc3 => ?_))
      · refine jss_cons (js_raiseX B.tk B.hc T.x_BadRatio rfl ?_)
        exact resL_no hc3
      · refine jss_nil ?_
        refine jss_cons (js_ret (je_tup (ja_cons (W := WD E) (je_ixL (je_var (i := 1) rfl rfl (by walk_at "vis")) (jw_of (W := WD E) je_int) (by walk_at "ix")) (ja_cons (W := WD E) (je_ixL (je_var (i := 1) rfl rfl (by walk_at "vis")) (jw_of (W := WD E) je_int) (by walk_at "ix")) ja_nil))) ?_)
        rw [resL_yes hc3]
        exact rfl
local macro_rules | `(tactic| walk_at "sp_read_ratio") => `(tactic| exact ⟨_, rfl, (by assumption), (by first | assumption | exact Eq.symm (by assumption) | rfl)⟩)
abbrev s__law_numbers : Stmt := topS 10
theorem sc__law_numbers : FnScope ["script", "count", "found", "seed", "cell", "left", "k", "own"] ["script", "count"] (defScope s__law_numbers) := ⟨rfl, rfl, rfl, by decide +kernel, rfl, by decide +kernel, by decide +kernel⟩
def Sp__law_numbers (ds : List D) (r : Res) : Prop := ∃ (ns : List Int) (c : Nat), ds = [.fls (ns.map D.int), .int c] ∧ (ns.length ≤ 63 ∧ c ≤ 1000) ∧ r = .nl ((lawNums ns c).map D.int)
set_option maxHeartbeats 4000000 in
theorem ok__law_numbers {f : Addr} {fd : FuncData} (F : Fun K "_law_numbers" "_law_numbers" s__law_numbers f fd) (T : Txt K mg)  : FnD P w K mg base 1 f fd ["script", "count"] Sp__law_numbers := by
  refine fnd_of F sc__law_numbers (fun ds r h => by obtain ⟨ns, c, rfl, ⟨hl, hcc⟩, rfl⟩ := h; first | rfl | simp) fun cdv A outer s H E ds r B h => ?_
  have hu := B.hu
  have hu65 := B.hu65
  have hcalm := B.hc
  obtain ⟨ns, c, rfl, ⟨hl, hcc⟩, rfl⟩ := h
  refine jss_cons (js_setN (i := 2) B.nd rfl (by walk_at "loc") (je_lst ja_nil) ?_)
  refine jss_cons (js_set (i := 3) B.nd rfl (by walk_at "loc") je_int ?_)
  refine jss_cons (js_forF B.po B.hc (je_var (i := 0) rfl rfl (by walk_at "vis")) (fun i ρ1 => ∃ y4 : Cell, ρ1 = [.fz (.fls (ns.map D.int)), .fz (.int c), .mu [], .fz (.int ((ns.take i).foldl lnF 7)), y4, .un, .un, .un]) ?_ ?_ ?_)
  · exact ⟨_, rfl⟩
  · rintro i d ρ1 hd ⟨y4, rfl⟩
    obtain ⟨x, hx, rfl⟩ := map_get hd
    have hb := lnFold_in ns i
    refine ⟨_, (jg_name (i := 4) B.nd rfl (by walk_at "loc")), ?_⟩
    refine jss_cons (js_set (i := 3) B.nd rfl (by walk_at "loc") (je_bin (jw_of (W := WD E) (je_callTy (jb_cons (jw_of (W := WD E) (je_bin (jw_of (W := WD E) (je_bin (jw_of (W := WD E) (je_var (i := 3) rfl rfl (by walk_at "vis"))) (jw_of (W := WD E) je_int) (by walk_at "ow"))) (jw_of (W := WD E) (je_var (i := 4) rfl rfl (by walk_at "vis"))) (by walk_at "ow"))) jb_nil) (by walk_at "cw") rfl T.b_int bt_int)) (jw_of (W := WD E) je_int) (by walk_at "ow")) ?_)
    refine jss_nil ?_
    exact ⟨_, by rw [foldl_take hx]; rfl⟩
  · rintro ρ1 ⟨y4, rfl⟩
    rw [List.length_map, List.take_length]
    refine jss_cons (js_set (i := 5) B.nd rfl (by walk_at "loc") je_int ?_)
    refine jss_cut (fun ρ1 => ∃ y4 : Cell, ρ1 = [.fz (.fls (ns.map D.int)), .fz (.int c), .mu [], .fz (.int (ns.foldl lnF 7)), y4, .fz (.int (lnLeft ns)), .un, .un]) (js_if (jt_p (jp_and (jt_cmp (jw_of (W := WD E) (je_callB (jb_cons (jw_of (W := WD E) (je_var (i := 0) rfl rfl (by walk_at "vis"))) jb_nil) (by walk_at "cw") rfl T.b_len bt_len)) (jw_of (W := WD E) je_int) (by walk_at "ow") (nomark _)) (fun hs0 => (jp_and1 (jt_cmp (jw_of (W := WD E) (je_ixF (je_var (i := 0) rfl rfl (by walk_at "vis")) (jw_of (W := WD E) je_int) (by walk_at "ix"))) (jw_of (W := WD E) je_int) (by walk_at "ow") (nomark _)))))) (fun hc1 => ?_) (fun hc1 => ?_)) ?_
    · have hpos : (0 : Int) < ns.length := by have hh := (Bool.and_eq_true_iff.mp hc1).1; rw [len_ints] at hh; exact of_decide_eq_true hh
      refine jss_cons (js_set (i := 5) B.nd rfl (by walk_at "loc") (je_ixF (je_var (i := 0) rfl rfl (by walk_at "vis")) (jw_of (W := WD E) je_int) (by walk_at "ix")) ?_)
      refine jss_nil ?_
      rw [len_ints] at hc1
      exact ⟨_, by unfold lnLeft; rw [if_pos hc1]; rfl⟩
    · refine jss_nil ?_
      rw [len_ints] at hc1
      exact ⟨_, by unfold lnLeft; rw [hc1]; rfl⟩
    · rintro ρ1 ⟨y4, rfl⟩
      refine jss_cons (js_forR1 B.po B.hc rfl T.b_range (je_var (i := 1) rfl rfl (by walk_at "vis")) (by walk_at "rg") (fun i ρ1 => ∃ y4 y6 y7 : Cell, ρ1 = [.fz (.fls (ns.map D.int)), .fz (.int c), .mu ((lnRun ns i).2.2.map D.int), .fz (.int (lnRun ns i).2.1), y4, .fz (.int (lnRun ns i).1), y6, y7]) ?_ ?_ ?_)
      · exact ⟨_, _, _, rfl⟩
      · rintro i ρ1 hi ⟨y4, y6, y7, rfl⟩
        obtain ⟨⟨hb1, hb2⟩, hb3, hb4⟩ := lnRun_in ns i
        have hsz : ((lnRun ns i).2.2.map D.int).length < sizeLine := by rw [List.length_map, hb3]; exact Nat.lt_of_lt_of_le (show i < 1000 by omega) (by decide)
        refine ⟨_, (jg_name (i := 6) B.nd rfl (by walk_at "loc")), ?_⟩
        refine jss_cons (js_if (jt_cmp (jw_of (W := WD E) (je_var (i := 5) rfl rfl (by walk_at "vis"))) (jw_of (W := WD E) je_int) (by walk_at "ow") (nomark _)) (fun hc2 => ?_) (fun hc2 => ?_))
        · refine jss_cons (js_append (i := 2) rfl rfl (by walk_at "vis") (je_bin (jw_of (W := WD E) (je_var (i := 5) rfl rfl (by walk_at "vis"))) (jw_of (W := WD E) je_int) (by walk_at "ow")) (by walk_at "sz") ?_)
          refine jss_cons (js_set (i := 5) B.nd rfl (by walk_at "loc") (je_bin (jw_of (W := WD E) (je_var (i := 5) rfl rfl (by walk_at "vis"))) (jw_of (W := WD E) je_int) (by walk_at "ow")) ?_)
          refine jss_nil ?_
          refine jss_nil ?_
          exact ⟨_, _, _, by rw [lnRun_pos (of_decide_eq_true hc2), List.map_append]; rfl⟩
        · refine jss_cons (js_set (i := 7) B.nd rfl (by walk_at "loc") je_int ?_)
          refine jss_cons (js_if (jt_cmp (jw_of (W := WD E) (je_callB (jb_cons (jw_of (W := WD E) (je_var (i := 0) rfl rfl (by walk_at "vis"))) jb_nil) (by walk_at "cw") rfl T.b_len bt_len)) (jw_of (W := WD E) je_int) (by walk_at "ow") (nomark _)) (fun hc3 => ?_) (fun hc3 => ?_))
          · have hx : decide ((0 : Int) < (ns.length : Int)) = true := by rw [← len_ints]; exact hc3
            have hx1 := of_decide_eq_true hx
            have hm := mod_in (i := (i : Int)) hx1
            refine jss_cons (js_set (i := 7) B.nd rfl (by walk_at "loc") (je_callTy (jb_cons (jw_of (W := WD E) (je_ixF (je_var (i := 0) rfl rfl (by walk_at "vis")) (jw_of (W := WD E) (je_bin (jw_of (W := WD E) (je_var (i := 6) rfl rfl (by walk_at "vis"))) (jw_of (W := WD E) (je_callB (jb_cons (jw_of (W := WD E) (je_var (i := 0) rfl rfl (by walk_at "vis"))) jb_nil) (by walk_at "cw") rfl T.b_len bt_len)) (by walk_at "ow"))) (by walk_at "ix"))) jb_nil) (by walk_at "cw") rfl T.b_int bt_int) ?_)
            refine jss_nil ?_
            refine jss_cons (js_set (i := 3) B.nd rfl (by walk_at "loc") (je_bin (jw_of (W := WD E) (je_callTy (jb_cons (jw_of (W := WD E) (je_bin (jw_of (W := WD E) (je_bin (jw_of (W := WD E) (je_bin (jw_of (W := WD E) (je_var (i := 3) rfl rfl (by walk_at "vis"))) (jw_of (W := WD E) je_int) (by walk_at "ow"))) (jw_of (W := WD E) (je_var (i := 7) rfl rfl (by walk_at "vis"))) (by walk_at "ow"))) (jw_of (W := WD E) (je_var (i := 6) rfl rfl (by walk_at "vis"))) (by walk_at "ow"))) jb_nil) (by walk_at "cw") rfl T.b_int bt_int)) (jw_of (W := WD E) je_int) (by walk_at "ow")) ?_)
            refine jss_cons (js_append (i := 2) rfl rfl (by walk_at "vis") (je_bin (jw_of (W := WD E) (je_bin (jw_of (W := WD E) (je_bin (jw_of (W := WD E) (je_callTy (jb_cons (jw_of (W := WD E) (je_bin (jw_of (W := WD E) (je_bin (jw_of (W := WD E) (je_var (i := 3) rfl rfl (by walk_at "vis"))) (jw_of (W := WD E) je_int) (by walk_at "ow"))) (jw_of (W := WD E) (je_bin (jw_of (W := WD E) (je_var (i := 6) rfl rfl (by walk_at "vis"))) (jw_of (W := WD E) je_int) (by walk_at "ow"))) (by walk_at "ow"))) jb_nil) (by walk_at "cw") rfl T.b_int bt_int)) (jw_of (W := WD E) je_int) (by walk_at "ow"))) (jw_of (W := WD E) je_int) (by walk_at "ow"))) (jw_of (W := WD E) je_int) (by walk_at "ow")) (by walk_at "sz") ?_)
            refine jss_nil ?_
            refine jss_nil ?_
            exact ⟨_, _, _, by rw [lnRun_neg (of_decide_eq_false hc2), List.map_append]; unfold lnSeed lnOwn; rw [if_pos hx, ← len_ints]; rfl⟩
          · refine jss_nil ?_
            refine jss_cons (js_set (i := 3) B.nd rfl (by walk_at "loc") (je_bin (jw_of (W := WD E) (je_callTy (jb_cons (jw_of (W := WD E) (je_bin (jw_of (W := WD E) (je_bin (jw_of (W := WD E) (je_bin (jw_of (W := WD E) (je_var (i := 3) rfl rfl (by walk_at "vis"))) (jw_of (W := WD E) je_int) (by walk_at "ow"))) (jw_of (W := WD E) (je_var (i := 7) rfl rfl (by walk_at "vis"))) (by walk_at "ow"))) (jw_of (W := WD E) (je_var (i := 6) rfl rfl (by walk_at "vis"))) (by walk_at "ow"))) jb_nil) (by walk_at "cw") rfl T.b_int bt_int)) (jw_of (W := WD E) je_int) (by walk_at "ow")) ?_)
            refine jss_cons (js_append (i := 2) rfl rfl (by walk_at "vis") (je_bin (jw_of (W := WD E) (je_bin (jw_of (W := WD E) (je_bin (jw_of (W := WD E) (je_callTy (jb_cons (jw_of (W := WD E) (je_bin (jw_of (W := WD E) (je_bin (jw_of (W := WD E) (je_var (i := 3) rfl rfl (by walk_at "vis"))) (jw_of (W := WD E) je_int) (by walk_at "ow"))) (jw_of (W := WD E) (je_bin (jw_of (W := WD E) (je_var (i := 6) rfl rfl (by walk_at "vis"))) (jw_of (W := WD E) je_int) (by walk_at "ow"))) (by walk_at "ow"))) jb_nil) (by walk_at "cw") rfl T.b_int bt_int)) (jw_of (W := WD E) je_int) (by walk_at "ow"))) (jw_of (W := WD E) je_int) (by walk_at "ow"))) (jw_of (W := WD E) je_int) (by walk_at "ow")) (by walk_at "sz") ?_)
            refine jss_nil ?_
            refine jss_nil ?_
            exact ⟨_, _, _, by rw [lnRun_neg (of_decide_eq_false hc2), List.map_append]; unfold lnSeed lnOwn; rw [if_neg (by rw [← len_ints, hc3]; decide)]; rfl⟩
      · rintro ρ1 ⟨y4, y6, y7, rfl⟩
        rw [Int.toNat_natCast]
        refine jss_cons (js_retM (i := 2) rfl rfl (by walk_at "vis") ?_)
        walk_at "leaf"
local macro_rules | `(tactic| walk_at "sp__law_numbers") => `(tactic| exact ⟨_, _, rfl, ⟨by assumption, by decide⟩, rfl⟩)
abbrev s__law_gcd : Stmt := topS 11
theorem sc__law_gcd : FnScope ["a", "b", "step"] ["a", "b"] (defScope s__law_gcd) := ⟨rfl, rfl, rfl, by decide +kernel, rfl, by decide +kernel, by decide +kernel⟩
def Sp__law_gcd (ds : List D) (r : Res) : Prop := ∃ a b : Int, ds = [.int a, .int b] ∧ (a.natAbs < 2 ^ 900 ∧ b.natAbs < 2 ^ 900) ∧ r = .ok (.int (Nat.gcd a.natAbs b.natAbs : Nat))
set_option maxHeartbeats 4000000 in
theorem ok__law_gcd {f : Addr} {fd : FuncData} (F : Fun K "_law_gcd" "_law_gcd" s__law_gcd f fd) (T : Txt K mg)  : FnD P w K mg base 1 f fd ["a", "b"] Sp__law_gcd := by
  refine fnd_of F sc__law_gcd (fun ds r h => by obtain ⟨a, b, rfl, ⟨ha, hb⟩, rfl⟩ := h; first | rfl | simp) fun cdv A outer s H E ds r B h => ?_
  have hu := B.hu
  have hu65 := B.hu65
  have hcalm := B.hc
  obtain ⟨a, b, rfl, ⟨ha, hb⟩, rfl⟩ := h
  refine jss_cons (js_set (i := 0) B.nd rfl (by walk_at "loc") (je_callB (jb_cons (jw_of (W := WD E) (je_var (i := 0) rfl rfl (by walk_at "vis"))) jb_nil) (by walk_at "cw") rfl T.b_abs bt_abs) ?_)
  refine jss_cons (js_set (i := 1) B.nd rfl (by walk_at "loc") (je_callB (jb_cons (jw_of (W := WD E) (je_var (i := 1) rfl rfl (by walk_at "vis"))) jb_nil) (by walk_at "cw") rfl T.b_abs bt_abs) ?_)
  refine jss_cons (js_forR1 B.po B.hc rfl T.b_range je_int (by walk_at "rg") (fun i ρ1 => ∃ (p q : Nat) (y2 : Cell), ρ1 = [.fz (.int p), .fz (.int q), y2] ∧ GT a.natAbs b.natAbs i p q) ?_ ?_ ?_)
  · exact ⟨_, _, _, rfl, GT.start ha hb⟩
  · rintro i ρ1 hi ⟨p, q, y2, rfl, I⟩
    refine ⟨_, (jg_name (i := 2) B.nd rfl (by walk_at "loc")), ?_⟩
    refine jss_cons (js_if (jt_cmp (jw_of (W := WD E) (je_var (i := 1) rfl rfl (by walk_at "vis"))) (jw_of (W := WD E) je_int) (by walk_at "ow") (nomark _)) (fun hc1 => ?_) (fun hc1 => ?_))
    · refine jss_cons (js_ret (je_var (i := 0) rfl rfl (by walk_at "vis")) ?_)
      obtain rfl : q = 0 := by have := of_decide_eq_true hc1; omega
      rw [I.zero]; rfl
    · refine jss_nil ?_
      have hq0 : (0 : Int) < (q : Int) := by have := of_decide_eq_false hc1; omega
      refine jss_cons (js_par (i := 0) (j := 1) B.hc B.nd rfl rfl (by decide) rfl rfl (ja_cons (W := WD E) (je_var (i := 1) rfl rfl (by walk_at "vis")) (ja_cons (W := WD E) (je_bin (jw_of (W := WD E) (je_var (i := 0) rfl rfl (by walk_at "vis"))) (jw_of (W := WD E) (je_var (i := 1) rfl rfl (by walk_at "vis"))) (by walk_at "ow")) ja_nil)) ?_ (by rfl))
      refine jss_nil ?_
      exact ⟨q, p % q, _, by rw [Int.natCast_emod]; rfl, I.next (by have := of_decide_eq_false hc1; omega)⟩
  · rintro ρ1 ⟨p, q, y2, rfl, I⟩
    refine jss_cons (js_ret (je_var (i := 0) rfl rfl (by walk_at "vis")) ?_)
    rw [I.last]; rfl
local macro_rules | `(tactic| walk_at "sp__law_gcd") => `(tactic| exact ⟨_, _, rfl, ⟨by assumption, by assumption⟩, rfl⟩)
abbrev s__law_ratio : Stmt := topS 12
theorem sc__law_ratio : FnScope ["n", "d", "common"] ["n", "d"] (defScope s__law_ratio) := ⟨rfl, rfl, rfl, by decide +kernel, rfl, by decide +kernel, by decide +kernel⟩
def Sp__law_ratio (ds : List D) (r : Res) : Prop := ∃ n d : Int, ds = [.int n, .int d] ∧ (n.natAbs < 2 ^ 900 ∧ d.natAbs < 2 ^ 900 ∧ d ≠ 0) ∧ r = .ok (dQ (qmk n d))
set_option maxHeartbeats 4000000 in
theorem ok__law_ratio {f : Addr} {fd : FuncData} (F : Fun K "_law_ratio" "_law_ratio" s__law_ratio f fd) (T : Txt K mg) (d__law_gcd : DefOk P w K mg base 1 "_law_gcd" Sp__law_gcd) : FnD P w K mg base 2 f fd ["n", "d"] Sp__law_ratio := by
  refine fnd_of F sc__law_ratio (fun ds r h => by obtain ⟨n, d, rfl, ⟨hn, hd, h0⟩, rfl⟩ := h; first | rfl | simp) fun cdv A outer s H E ds r B h => ?_
  have hu := B.hu
  have hu65 := B.hu65
  have hcalm := B.hc
  obtain ⟨n, d, rfl, ⟨hn, hd, h0⟩, rfl⟩ := h
  have hd2 : d.natAbs < 2 ^ 8000 := Nat.lt_of_lt_of_le hd (Nat.pow_le_pow_right (by decide) (by decide))
  refine jss_cons (js_set (i := 2) B.nd rfl (by walk_at "loc") (je_call B.tk B.hr d__law_gcd (ja_cons (W := WD E) (je_var (i := 0) rfl rfl (by walk_at "vis")) (ja_cons (W := WD E) (je_var (i := 1) rfl rfl (by walk_at "vis")) ja_nil)) (by walk_at "sp__law_gcd") (by decide) rfl) ?_)
  refine jss_cons (js_if (jt_cmp (jw_of (W := WD E) (je_var (i := 1) rfl rfl (by walk_at "vis"))) (jw_of (W := WD E) je_int) (by walk_at "ow") (nomark _)) (fun hc1 => ?_) (fun hc1 => ?_))
  · refine jss_cons (js_set (i := 2) B.nd rfl (by walk_at "loc") (je_bin (jw_of (W := WD E) je_int) (jw_of (W := WD E) (je_var (i := 2) rfl rfl (by walk_at "vis"))) (by walk_at "ow")) ?_)
    refine jss_nil ?_
    have hdv : ∀ x : Int, CDivWN x (if d < 0 then 0 - (Nat.gcd n.natAbs d.natAbs : Int) else (Nat.gcd n.natAbs d.natAbs : Int)) := fun x => qc_divN h0 hd2
    have hdn := hdv n
    have hdd := hdv d
    first | (rw [if_pos (of_decide_eq_true hc1)] at hdn hdd) | (rw [if_neg (of_decide_eq_false hc1)] at hdn hdd)
    refine jss_cons (js_ret (je_tup (ja_cons (W := WD E) (je_bin (jw_of (W := WD E) (je_var (i := 0) rfl rfl (by walk_at "vis"))) (jw_of (W := WD E) (je_var (i := 2) rfl rfl (by walk_at "vis"))) (by walk_at "ow")) (ja_cons (W := WD E) (je_bin (jw_of (W := WD E) (je_var (i := 1) rfl rfl (by walk_at "vis"))) (jw_of (W := WD E) (je_var (i := 2) rfl rfl (by walk_at "vis"))) (by walk_at "ow")) ja_nil))) ?_)
    rw [qmk_neg (of_decide_eq_true hc1), ← Int.zero_sub]; rfl
  · refine jss_nil ?_
    have hdv : ∀ x : Int, CDivWN x (if d < 0 then 0 - (Nat.gcd n.natAbs d.natAbs : Int) else (Nat.gcd n.natAbs d.natAbs : Int)) := fun x => qc_divN h0 hd2
    have hdn := hdv n
    have hdd := hdv d
    first | (rw [if_pos (of_decide_eq_true hc1)] at hdn hdd) | (rw [if_neg (of_decide_eq_false hc1)] at hdn hdd)
    refine jss_cons (js_ret (je_tup (ja_cons (W := WD E) (je_bin (jw_of (W := WD E) (je_var (i := 0) rfl rfl (by walk_at "vis"))) (jw_of (W := WD E) (je_var (i := 2) rfl rfl (by walk_at "vis"))) (by walk_at "ow")) (ja_cons (W := WD E) (je_bin (jw_of (W := WD E) (je_var (i := 1) rfl rfl (by walk_at "vis"))) (jw_of (W := WD E) (je_var (i := 2) rfl rfl (by walk_at "vis"))) (by walk_at "ow")) ja_nil))) ?_)
    rw [qmk_pos (of_decide_eq_false hc1)]; rfl
local macro_rules | `(tactic| walk_at "sp__law_ratio") => `(tactic| exact ⟨_, _, rfl, ⟨by assumption, by assumption, by assumption⟩, rfl⟩)
abbrev s__law_refuses : Stmt := topS 13
theorem sc__law_refuses : FnScope ["text"] ["text"] (defScope s__law_refuses) := ⟨rfl, rfl, rfl, by decide +kernel, rfl, by decide +kernel, by decide +kernel⟩
def Sp__law_refuses (ds : List D) (r : Res) : Prop := ∃ t : Str, ds = [.str t] ∧ okT t = true ∧ Res.er "BadRatio" = readR t ∧ r = .ok (.bl true)
set_option maxHeartbeats 4000000 in
theorem ok__law_refuses {f : Addr} {fd : FuncData} (F : Fun K "_law_refuses" "_law_refuses" s__law_refuses f fd) (T : Txt K mg) (d_read_ratio : DefOk P w K mg base 2 "read_ratio" Sp_read_ratio) : FnD P w K mg base 3 f fd ["text"] Sp__law_refuses := by
  refine fnd_of F sc__law_refuses (fun ds r h => by obtain ⟨t, rfl, ht, hr, rfl⟩ := h; first | rfl | simp) fun cdv A outer s H E ds r B h => ?_
  have hu := B.hu
  have hu65 := B.hu65
  have hcalm := B.hc
  obtain ⟨t, rfl, ht, hr, rfl⟩ := h
  refine jss_cons (js_try B.tk rfl rfl ⟨rfl, by decide, .inl T.x_BadRatio.g⟩ (fun W' pn xe tk' po' => ?_))
  have B' : Bd (Cx.tr _ pn xe) W' _ := ⟨tk', po', B.hr, B.nd, B.hc⟩
  refine jss_cons (js_exprE (je_call B'.tk B'.hr d_read_ratio (ja_cons (W := W') (je_var (i := 0) rfl rfl (by walk_at "vis")) ja_nil) (by walk_at "sp_read_ratio") (by decide) rfl) ?_)
  refine ⟨true, T.e_BadRatio_BadRatio, fun _ a oe pn hz hv => ?_, fun z => by cases z⟩
  refine jss_cons (js_ret je_bl ?_)
  exact rfl
local macro_rules | `(tactic| walk_at "sp__law_refuses") => `(tactic| exact ⟨_, rfl, (by assumption), (by assumption), rfl⟩)
abbrev s_law : Stmt := topS 14
theorem sc_law : FnScope ["script", "numbers", "n", "d", "ratio", "text", "k", "wrong"] ["script"] (defScope s_law) := ⟨rfl, rfl, rfl, by decide +kernel, rfl, by decide +kernel, by decide +kernel⟩
def Sp_law (ds : List D) (r : Res) : Prop := ∃ ns : List Int, ds = [.fls (ns.map D.int)] ∧ ns.length ≤ 63 ∧ r = .ok (.bl true)
set_option maxHeartbeats 4000000 in
theorem ok_law {f : Addr} {fd : FuncData} (F : Fun K "law" "law" s_law f fd) (T : Txt K mg) (d__law_numbers : DefOk P w K mg base 1 "_law_numbers" Sp__law_numbers) (d__law_ratio : DefOk P w K mg base 2 "_law_ratio" Sp__law_ratio) (d__law_refuses : DefOk P w K mg base 3 "_law_refuses" Sp__law_refuses) (d_read_ratio : DefOk P w K mg base 2 "read_ratio" Sp_read_ratio) (d_write_ratio : DefOk P w K mg base 1 "write_ratio" Sp_write_ratio) : FnD P w K mg base 4 f fd ["script"] SpLaw := by
  refine fnd_of F sc_law (fun ds r h => by obtain ⟨ns, rfl, hl, rfl⟩ := h; first | rfl | simp) fun cdv A outer s H E ds r B h => ?_
  have hu := B.hu
  have hu65 := B.hu65
  have hcalm := B.hc
  obtain ⟨ns, rfl, hl, rfl⟩ := h
  refine jss_cons (js_set (i := 1) B.nd rfl (by walk_at "loc") (je_fz (je_call B.tk B.hr d__law_numbers (ja_cons (W := WD E) (je_var (i := 0) rfl rfl (by walk_at "vis")) (ja_cons (W := WD E) je_int ja_nil)) (by walk_at "sp__law_numbers") (by decide) rfl)) ?_)
  have hN : (lawNums ns 8).length = 8 := lawNums_len ns 8
  have hB : ∀ i, 0 ≤ (lawNums ns 8).getD i 0 ∧ (lawNums ns 8).getD i 0 < 10007 := numsB ns 8
  generalize lawNums ns 8 = N at hN hB ⊢
  have b0 := hB (Int.toNat 0)
  have b1 := hB (Int.toNat 1)
  have b2 := hB (Int.toNat 2)
  have b3 := hB (Int.toNat 3)
  have b4 := hB (Int.toNat 4)
  have b5 := hB (Int.toNat 5)
  have b6 := hB (Int.toNat 6)
  have m01 := mulB1 b0 b1
  have hsl : 1000000 ≤ sizeLine := by decide
  refine jss_cons (js_set (i := 2) B.nd rfl (by walk_at "loc") (je_bin (jw_of (W := WD E) (je_ixL (je_var (i := 1) rfl rfl (by walk_at "vis")) (jw_of (W := WD E) je_int) (by walk_at "ix"))) (jw_of (W := WD E) (je_bin (jw_of (W := WD E) je_int) (jw_of (W := WD E) (je_ixL (je_var (i := 1) rfl rfl (by walk_at "vis")) (jw_of (W := WD E) je_int) (by walk_at "ix"))) (by walk_at "ow"))) (by walk_at "ow")) ?_)
  have hn : 0 ≤ N.getD (Int.toNat 0) 0 * (1 + N.getD (Int.toNat 1) 0) ∧ N.getD (Int.toNat 0) 0 * (1 + N.getD (Int.toNat 1) 0) ≤ 100130042 := m01
  generalize N.getD (Int.toNat 0) 0 * (1 + N.getD (Int.toNat 1) 0) = n at hn ⊢
  refine jss_cons (js_set (i := 3) B.nd rfl (by walk_at "loc") je_int ?_)
  refine jss_cut (fun ρ1 => ∃ d : Int, ρ1 = [.fz (.fls (ns.map D.int)), .fz (.lst (N.map D.int)), .fz (.int n), .fz (.int d), .un, .un, .un, .un] ∧ (1 ≤ d ∧ d ≤ 200000000)) (js_if (jt_cmp (jw_of (W := WD E) (je_bin (jw_of (W := WD E) (je_ixL (je_var (i := 1) rfl rfl (by walk_at "vis")) (jw_of (W := WD E) je_int) (by walk_at "ix"))) (jw_of (W := WD E) je_int) (by walk_at "ow"))) (jw_of (W := WD E) je_int) (by walk_at "ow") (nomark _)) (fun hc1 => ?_) (fun hc1 => ?_)) ?_
  · have m34 := mulB1 b3 (b := N.getD (Int.toNat 4) 0 % 97) (by omega)
    refine jss_cons (js_set (i := 3) B.nd rfl (by walk_at "loc") (je_bin (jw_of (W := WD E) je_int) (jw_of (W := WD E) (je_bin (jw_of (W := WD E) (je_ixL (je_var (i := 1) rfl rfl (by walk_at "vis")) (jw_of (W := WD E) je_int) (by walk_at "ix"))) (jw_of (W := WD E) (je_bin (jw_of (W := WD E) je_int) (jw_of (W := WD E) (je_bin (jw_of (W := WD E) (je_ixL (je_var (i := 1) rfl rfl (by walk_at "vis")) (jw_of (W := WD E) je_int) (by walk_at "ix"))) (jw_of (W := WD E) je_int) (by walk_at "ow"))) (by walk_at "ow"))) (by walk_at "ow"))) (by walk_at "ow")) ?_)
    refine jss_nil ?_
    exact ⟨_, rfl, by omega, by omega⟩
  · refine jss_nil ?_
    exact ⟨_, rfl, by omega, by omega⟩
  · rintro ρ1 ⟨d, rfl, hd⟩
    have z1 : n.natAbs < 2 ^ 900 := sml (by omega)
    have z2 : d.natAbs < 2 ^ 900 := sml (by omega)
    have z3 : d ≠ 0 := by omega
    refine jss_cons (js_set (i := 4) B.nd rfl (by walk_at "loc") (je_call B.tk B.hr d__law_ratio (ja_cons (W := WD E) (je_var (i := 2) rfl rfl (by walk_at "vis")) (ja_cons (W := WD E) (je_var (i := 3) rfl rfl (by walk_at "vis")) ja_nil)) (by walk_at "sp__law_ratio") (by decide) rfl) ?_)
    obtain ⟨x, y, hq, hx, hy, hy0, hg⟩ := qmk_nn hn.1 (show 0 < d by omega)
    rw [hq]
    have x9 : x < 10000000000 := by omega
    have y9 : y < 10000000000 := by omega
    have hW := WOk_pos x9 y9
    have w1 := hW.b1
    have w2 := hW.b2
    have l1 : (Str.ofString (toString (x : Int))).length ≤ 10 := sI_len (k := 10) (by decide) (by omega)
    have l2 : (Str.ofString (toString (y : Int))).length ≤ 10 := sI_len (k := 10) (by decide) (by omega)
    have l3 : ("/" : Str).length = 1 := by decide
    have l4 : ("-" : Str).length = 1 := by decide
    refine jss_cons (js_set (i := 5) B.nd rfl (by walk_at "loc") (je_callTy (jb_cons (jw_of (W := WD E) (je_ixT (je_var (i := 4) rfl rfl (by walk_at "vis")) (jw_of (W := WD E) je_int) (by walk_at "ix"))) jb_nil) (by walk_at "cw") rfl T.b_str bt_str) ?_)
    refine jss_cut (fun ρ1 => ρ1 = [.fz (.fls (ns.map D.int)), .fz (.lst (N.map D.int)), .fz (.int n), .fz (.int d), .fz (dQ ((x : Int), (y : Int))), .fz (.str (wrS x y)), .un, .un]) (js_if (jt_cmp (jw_of (W := WD E) (je_ixT (je_var (i := 4) rfl rfl (by walk_at "vis")) (jw_of (W := WD E) je_int) (by walk_at "ix"))) (jw_of (W := WD E) je_int) (by walk_at "ow") (nomark _)) (fun hc2 => ?_) (fun hc2 => ?_)) ?_
    · refine jss_cons (js_set (i := 5) B.nd rfl (by walk_at "loc") (je_bin (jw_of (W := WD E) (je_bin (jw_of (W := WD E) (je_var (i := 5) rfl rfl (by walk_at "vis"))) (jw_of (W := WD E) je_str) (by walk_at "ow"))) (jw_of (W := WD E) (je_callTy (jb_cons (jw_of (W := WD E) (je_ixT (je_var (i := 4) rfl rfl (by walk_at "vis")) (jw_of (W := WD E) je_int) (by walk_at "ix"))) jb_nil) (by walk_at "cw") rfl T.b_str bt_str)) (by walk_at "ow")) ?_)
      refine jss_nil ?_
      have h8 := of_decide_eq_true hc2
      rw [show wrS x y = sI x ++ "/" ++ sI y from if_neg (by omega)]
      exact rfl
    · refine jss_nil ?_
      have h8 := of_decide_eq_false hc2
      rw [wrS_1 (show (y : Int) = 1 by omega)]
      exact rfl
    · rintro ρ1 rfl
      have hrd := wrS_read (n := x) (d := y) (by omega) (by omega) hy0 hg
      obtain ⟨hrd, hok⟩ := hrd
      have hrd2 := hrd.symm
      have hWn := WOk_neg x9 y9
      have hlen := wrS_len x9 y9
      refine jss_cons (js_if (jt_p (jp_or (jt_cmp (jw_of (W := WD E) (je_call B.tk B.hr d_write_ratio (ja_cons (W := WD E) (je_var (i := 4) rfl rfl (by walk_at "vis")) ja_nil) (by walk_at "sp_write_ratio") (by decide) rfl)) (jw_of (W := WD E) (je_var (i := 5) rfl rfl (by walk_at "vis"))) (by walk_at "ow") (nomark _)) (fun hs0 => (jp_or1 (jt_cmp (jw_of (W := WD E) (je_call B.tk B.hr d_read_ratio (ja_cons (W := WD E) (je_var (i := 5) rfl rfl (by walk_at "vis")) ja_nil) (by walk_at "sp_read_ratio") (by decide) rfl)) (jw_of (W := WD E) (je_var (i := 4) rfl rfl (by walk_at "vis"))) (by walk_at "ow") (nomark _)))))) (fun hc3 => ?_) (fun hc3 => ?_))
      · refine jss_cons (js_ret je_bl ?_)
        rw [D.eqv_self (dQ_cmp _)] at hc3
        simp at hc3
      · refine jss_nil ?_
        refine jss_cons (js_if (jt_p (jp_and (jt_cmp (jw_of (W := WD E) (je_ixT (je_var (i := 4) rfl rfl (by walk_at "vis")) (jw_of (W := WD E) je_int) (by walk_at "ix"))) (jw_of (W := WD E) je_int) (by walk_at "ow") (nomark _)) (fun hs0 => (jp_and1 (jt_cmp (jw_of (W := WD E) (je_call B.tk B.hr d_write_ratio (ja_cons (W := WD E) (je_tup (ja_cons (W := WD E) (je_bin (jw_of (W := WD E) je_int) (jw_of (W := WD E) (je_ixT (je_var (i := 4) rfl rfl (by walk_at "vis")) (jw_of (W := WD E) je_int) (by walk_at "ix"))) (by walk_at "ow")) (ja_cons (W := WD E) (je_ixT (je_var (i := 4) rfl rfl (by walk_at "vis")) (jw_of (W := WD E) je_int) (by walk_at "ix")) ja_nil))) ja_nil) (by walk_at "sp_write_ratio") (by decide) rfl)) (jw_of (W := WD E) (je_bin (jw_of (W := WD E) je_str) (jw_of (W := WD E) (je_var (i := 5) rfl rfl (by walk_at "vis"))) (by walk_at "ow"))) (by walk_at "ow") (nomark _)))))) (fun hc4 => ?_) (fun hc4 => ?_))
        · refine jss_cons (js_ret je_bl ?_)
          rw [Bool.and_eq_true] at hc4
          have h4 := of_decide_eq_true hc4.1
          have h5 := hc4.2
          rw [wrS_neg (show 0 < x by omega)] at h5
          simp at h5
        · refine jss_nil ?_
          have c1a := c1_read.1
          have c2a := c2_read.1
          have c1b := c1_res
          have c2b := c2_res
          have c1i := c1_int
          have c2i := c2_int
          have q1 : (repS "1" 30).length = 30 := repS_len _ _
          have q2 : (repS "2" 30).length = 30 := repS_len _ _
          have q3 : ("1/" : Str).length = 2 := by decide
          refine jss_cons (js_if (jt_p (jp_or (jt_cmp (jw_of (W := WD E) (je_call B.tk B.hr d_read_ratio (ja_cons (W := WD E) (je_bin (jw_of (W := WD E) je_str) (jw_of (W := WD E) je_int) (by walk_at "ow")) ja_nil) (by walk_at "sp_read_ratio") (by decide) rfl)) (jw_of (W := WD E) (je_tup (ja_cons (W := WD E) (je_callTy (jb_cons (jw_of (W := WD E) (je_bin (jw_of (W := WD E) je_str) (jw_of (W := WD E) je_int) (by walk_at "ow"))) jb_nil) (by walk_at "cw") rfl T.b_int bt_int) (ja_cons (W := WD E) je_int ja_nil)))) (by walk_at "ow") (nomark _)) (fun hs0 => (jp_or1 (jt_cmp (jw_of (W := WD E) (je_call B.tk B.hr d_read_ratio (ja_cons (W := WD E) (je_bin (jw_of (W := WD E) je_str) (jw_of (W := WD E) (je_bin (jw_of (W := WD E) je_str) (jw_of (W := WD E) je_int) (by walk_at "ow"))) (by walk_at "ow")) ja_nil) (by walk_at "sp_read_ratio") (by decide) rfl)) (jw_of (W := WD E) (je_tup (ja_cons (W := WD E) je_int (ja_cons (W := WD E) (je_callTy (jb_cons (jw_of (W := WD E) (je_bin (jw_of (W := WD E) je_str) (jw_of (W := WD E) je_int) (by walk_at "ow"))) jb_nil) (by walk_at "cw") rfl T.b_int bt_int) ja_nil)))) (by walk_at "ow") (nomark _)))))) (fun hc5 => ?_) (fun hc5 => ?_))
          · refine jss_cons (js_ret je_bl ?_)
            have h5 : (!(dQ (c1, 1)).eqv (dQ (c1, 1)) || !(dQ (1, c2)).eqv (dQ (1, c2))) = true := hc5
            rw [D.eqv_self (dQ_cmp _), D.eqv_self (dQ_cmp _)] at h5
            simp at h5
          · refine jss_nil ?_
            have hm : 0 ≤ N.getD (Int.toNat 5) 0 % 50 ∧ N.getD (Int.toNat 5) 0 % 50 < 50 := by omega
            have w5 : (2 + N.getD (Int.toNat 5) 0 % 50).natAbs.log2 < 1920 := sml1000 (by omega)
            refine jss_cons (js_set (i := 6) B.nd rfl (by walk_at "loc") (je_callTy (jb_cons (jw_of (W := WD E) (je_bin (jw_of (W := WD E) je_int) (jw_of (W := WD E) (je_bin (jw_of (W := WD E) (je_ixL (je_var (i := 1) rfl rfl (by walk_at "vis")) (jw_of (W := WD E) je_int) (by walk_at "ix"))) (jw_of (W := WD E) je_int) (by walk_at "ow"))) (by walk_at "ow"))) jb_nil) (by walk_at "cw") rfl T.b_str bt_str) ?_)
            have hk := sI_2 hm
            generalize N.getD (Int.toNat 5) 0 % 50 = m at hm hk ⊢
            have q4 : (repS "3" 31).length = 31 := repS_len _ _
            have q5 : ("0/" : Str).length = 2 := by decide
            refine jss_cons (js_set (i := 7) B.nd rfl (by walk_at "loc") (je_fz (je_lst (ja_cons (W := WD E) je_str (ja_cons (W := WD E) je_str (ja_cons (W := WD E) je_str (ja_cons (W := WD E) je_str (ja_cons (W := WD E) je_str (ja_cons (W := WD E) je_str (ja_cons (W := WD E) (je_bin (jw_of (W := WD E) (je_bin (jw_of (W := WD E) (je_var (i := 6) rfl rfl (by walk_at "vis"))) (jw_of (W := WD E) je_str) (by walk_at "ow"))) (jw_of (W := WD E) (je_var (i := 6) rfl rfl (by walk_at "vis"))) (by walk_at "ow")) (ja_cons (W := WD E) je_str (ja_cons (W := WD E) je_str (ja_cons (W := WD E) je_str (ja_cons (W := WD E) je_str (ja_cons (W := WD E) je_str (ja_cons (W := WD E) je_str (ja_cons (W := WD E) je_str (ja_cons (W := WD E) je_str (ja_cons (W := WD E) (je_bin (jw_of (W := WD E) je_str) (jw_of (W := WD E) je_int) (by walk_at "ow")) (ja_cons (W := WD E) (je_bin (jw_of (W := WD E) je_str) (jw_of (W := WD E) (je_bin (jw_of (W := WD E) je_str) (jw_of (W := WD E) je_int) (by walk_at "ow"))) (by walk_at "ow")) (ja_cons (W := WD E) je_str (ja_cons (W := WD E) (je_bin (jw_of (W := WD E) je_str) (jw_of (W := WD E) (je_var (i := 6) rfl rfl (by walk_at "vis"))) (by walk_at "ow")) (ja_cons (W := WD E) je_str (ja_cons (W := WD E) je_str (ja_cons (W := WD E) je_str ja_nil)))))))))))))))))))))))) ?_)
            obtain ⟨t, hat, tok, tbad⟩ := wrong_pick hm (j := N.getD (Int.toNat 6) 0 % 22) (by omega)
            refine jss_cons (js_ret (je_call B.tk B.hr d__law_refuses (ja_cons (W := WD E) (je_ixL (je_var (i := 7) rfl rfl (by walk_at "vis")) (jw_of (W := WD E) (je_bin (jw_of (W := WD E) (je_ixL (je_var (i := 1) rfl rfl (by walk_at "vis")) (jw_of (W := WD E) je_int) (by walk_at "ix"))) (jw_of (W := WD E) je_int) (by walk_at "ow"))) (by walk_at "ix")) ja_nil) (by walk_at "sp__law_refuses") (by decide) rfl) ?_)
            walk_at "leaf"
end
theorem exA_of {mg : Str → Option Value} {c : Str} {C : Addr} (h : mg c = some (.ref C)) : exA mg c = C := by unfold exA; rw [h]
theorem exOk_of {K : PySem.W.Frag} {mg : Str → Option Value} {c : Str} {C : Addr} (h : mg c = some (.ref C)) (a : PySem.W.excIn K C [.type "ValueError", .type "Exception", .type "BaseException", .type "object"] "ValueError.__new__" = true) (b : PySem.W.keepIn K (.ref C) = true) (d : PySem.W.subIn K (.ref C) (.type "BaseException") = some true) (e : PySem.W.typeIn K (.ref C) = some (.type "type")) : ExOk K mg c := by
  have q := exA_of h
  refine ⟨?_, ?_, ?_, ?_, ?_⟩ <;> rw [q] <;> assumption
theorem exm_pair {K : PySem.W.Frag} {S : Value} {C : Addr} {b : Bool} (h1 : PySem.W.subIn K (.ref C) (.type "BaseException") = some true) (h2 : PySem.W.isClsIn K C = true) (h3 : PySem.W.typeIn K (.ref C) = some (.type "type")) (h4 : PySem.W.subIn K S (.ref C) = some b) :
    PySem.W.exmOne K S (.ref C) = some b := by
  have e1 : (PySem.W.subIn K (.ref C) (.type "BaseException") == some true) = true := by rw [h1] <;> rfl
  have e2 : ((PySem.W.clsIn K C).isSome && PySem.W.typeIn K (.ref C) == some (.type "type")) = true := by
    have h2' : (PySem.W.clsIn K C).isSome = true := h2
    rw [h2', h3] <;> rfl
  show (if (PySem.W.subIn K (.ref C) (.type "BaseException") == some true) = true then (if ((PySem.W.clsIn K C).isSome && PySem.W.typeIn K (.ref C) == some (.type "type")) = true then PySem.W.subIn K S (.ref C) else none) else none) = some b
  rw [if_pos e1, if_pos e2]
  exact h4
theorem exm_mg {K : PySem.W.Frag} {mg : Str → Option Value} {d c : Str} {D0 C : Addr} {b : Bool} (h1 : mg d = some (.ref D0)) (h2 : mg c = some (.ref C)) (e : PySem.W.exmOne K (.ref D0) (.ref C) = some b) : PySem.W.exmOne K (.ref (exA mg d)) (.ref (exA mg c)) = some b := by
  rw [exA_of h1, exA_of h2]
  exact e
set_option maxHeartbeats 4000000 in
theorem all_mk {l : PySem.W.OpenLaw} {w : World} {K : PySem.W.Frag} {h : Heap} {mg : Str → Option Value} {fa f0 f1 f2 f3 f4 f5 f6 f7 f8 : Addr} {od0 an0 : Option Addr} {sl0 : Array (Option Value)} {oc0 kV0 dc0 pm0 cd0 ct0 : Value} {od1 an1 : Option Addr} {sl1 : Array (Option Value)} {oc1 kV1 dc1 pm1 cd1 ct1 : Value} {od2 an2 : Option Addr} {sl2 : Array (Option Value)} {oc2 kV2 dc2 pm2 cd2 ct2 : Value} {od3 an3 : Option Addr} {sl3 : Array (Option Value)} {oc3 kV3 dc3 pm3 cd3 ct3 : Value} {od4 an4 : Option Addr} {sl4 : Array (Option Value)} {oc4 kV4 dc4 pm4 cd4 ct4 : Value} {od5 an5 : Option Addr} {sl5 : Array (Option Value)} {oc5 kV5 dc5 pm5 cd5 ct5 : Value} {od6 an6 : Option Addr} {sl6 : Array (Option Value)} {oc6 kV6 dc6 pm6 cd6 ct6 : Value} {od7 an7 : Option Addr} {sl7 : Array (Option Value)} {oc7 kV7 dc7 pm7 cd7 ct7 : Value} {od8 an8 : Option Addr} {sl8 : Array (Option Value)} {oc8 kV8 dc8 pm8 cd8 ct8 : Value} {C_BadRatio : Addr} (X : K.In h) (G : h.Ns mainGlobals mg) (hfa : mg "law" = some (.ref fa))
    (a0 : PySem.W.nsIn K mainGlobals "whole" = some (some (.ref f0))) (l0 : K.lookup f0 = some ⟨oc0, od0, .func (PySem.W.fnOf "whole" "whole" (defArgs s_whole) (defBody s_whole) (defScope s_whole) .none kV0 dc0 pm0 an0 cd0 ct0), sl0⟩) (c0 : PySem.W.codeIn K cd0 "whole" = true) (k0 : PySem.W.keepIn K (.ref f0) = true)
    (a1 : PySem.W.nsIn K mainGlobals "write_ratio" = some (some (.ref f1))) (l1 : K.lookup f1 = some ⟨oc1, od1, .func (PySem.W.fnOf "write_ratio" "write_ratio" (defArgs s_write_ratio) (defBody s_write_ratio) (defScope s_write_ratio) .none kV1 dc1 pm1 an1 cd1 ct1), sl1⟩) (c1 : PySem.W.codeIn K cd1 "write_ratio" = true) (k1 : PySem.W.keepIn K (.ref f1) = true)
    (a2 : PySem.W.nsIn K mainGlobals "number_word" = some (some (.ref f2))) (l2 : K.lookup f2 = some ⟨oc2, od2, .func (PySem.W.fnOf "number_word" "number_word" (defArgs s_number_word) (defBody s_number_word) (defScope s_number_word) .none kV2 dc2 pm2 an2 cd2 ct2), sl2⟩) (c2 : PySem.W.codeIn K cd2 "number_word" = true) (k2 : PySem.W.keepIn K (.ref f2) = true)
    (a3 : PySem.W.nsIn K mainGlobals "read_ratio" = some (some (.ref f3))) (l3 : K.lookup f3 = some ⟨oc3, od3, .func (PySem.W.fnOf "read_ratio" "read_ratio" (defArgs s_read_ratio) (defBody s_read_ratio) (defScope s_read_ratio) .none kV3 dc3 pm3 an3 cd3 ct3), sl3⟩) (c3 : PySem.W.codeIn K cd3 "read_ratio" = true) (k3 : PySem.W.keepIn K (.ref f3) = true)
    (a4 : PySem.W.nsIn K mainGlobals "_law_numbers" = some (some (.ref f4))) (l4 : K.lookup f4 = some ⟨oc4, od4, .func (PySem.W.fnOf "_law_numbers" "_law_numbers" (defArgs s__law_numbers) (defBody s__law_numbers) (defScope s__law_numbers) .none kV4 dc4 pm4 an4 cd4 ct4), sl4⟩) (c4 : PySem.W.codeIn K cd4 "_law_numbers" = true) (k4 : PySem.W.keepIn K (.ref f4) = true)
    (a5 : PySem.W.nsIn K mainGlobals "_law_gcd" = some (some (.ref f5))) (l5 : K.lookup f5 = some ⟨oc5, od5, .func (PySem.W.fnOf "_law_gcd" "_law_gcd" (defArgs s__law_gcd) (defBody s__law_gcd) (defScope s__law_gcd) .none kV5 dc5 pm5 an5 cd5 ct5), sl5⟩) (c5 : PySem.W.codeIn K cd5 "_law_gcd" = true) (k5 : PySem.W.keepIn K (.ref f5) = true)
    (a6 : PySem.W.nsIn K mainGlobals "_law_ratio" = some (some (.ref f6))) (l6 : K.lookup f6 = some ⟨oc6, od6, .func (PySem.W.fnOf "_law_ratio" "_law_ratio" (defArgs s__law_ratio) (defBody s__law_ratio) (defScope s__law_ratio) .none kV6 dc6 pm6 an6 cd6 ct6), sl6⟩) (c6 : PySem.W.codeIn K cd6 "_law_ratio" = true) (k6 : PySem.W.keepIn K (.ref f6) = true)
    (a7 : PySem.W.nsIn K mainGlobals "_law_refuses" = some (some (.ref f7))) (l7 : K.lookup f7 = some ⟨oc7, od7, .func (PySem.W.fnOf "_law_refuses" "_law_refuses" (defArgs s__law_refuses) (defBody s__law_refuses) (defScope s__law_refuses) .none kV7 dc7 pm7 an7 cd7 ct7), sl7⟩) (c7 : PySem.W.codeIn K cd7 "_law_refuses" = true) (k7 : PySem.W.keepIn K (.ref f7) = true)
    (a8 : PySem.W.nsIn K mainGlobals "law" = some (some (.ref f8))) (l8 : K.lookup f8 = some ⟨oc8, od8, .func (PySem.W.fnOf "law" "law" (defArgs s_law) (defBody s_law) (defScope s_law) .none kV8 dc8 pm8 an8 cd8 ct8), sl8⟩) (c8 : PySem.W.codeIn K cd8 "law" = true) (k8 : PySem.W.keepIn K (.ref f8) = true)
    (z_len : PySem.W.nsIn K mainGlobals "len" = some none)
    (z_int : PySem.W.nsIn K mainGlobals "int" = some none)
    (z_str : PySem.W.nsIn K mainGlobals "str" = some none)
    (z_isinstance : PySem.W.nsIn K mainGlobals "isinstance" = some none)
    (z_bool : PySem.W.nsIn K mainGlobals "bool" = some none)
    (z_abs : PySem.W.nsIn K mainGlobals "abs" = some none)
    (z_range : PySem.W.nsIn K mainGlobals "range" = some none)
    (g_gcd : PySem.W.nsIn K mainGlobals "gcd" = some (some (.builtin "math.gcd")))
    (xa_BadRatio : PySem.W.nsIn K mainGlobals "BadRatio" = some (some (.ref C_BadRatio))) (xe_BadRatio : PySem.W.excIn K C_BadRatio [.type "ValueError", .type "Exception", .type "BaseException", .type "object"] "ValueError.__new__" = true) (xk_BadRatio : PySem.W.keepIn K (.ref C_BadRatio) = true) (xs_BadRatio : PySem.W.subIn K (.ref C_BadRatio) (.type "BaseException") = some true) (xt_BadRatio : PySem.W.typeIn K (.ref C_BadRatio) = some (.type "type")) (xi_BadRatio : PySem.W.isClsIn K C_BadRatio = true)
    (p_BadRatio_BadRatio : PySem.W.subIn K (.ref C_BadRatio) (.ref C_BadRatio) = some true) :
    ∃ fd : FuncData, (∀ (s : Shared) (v : Value), BindsTo s fd ⟨[v], []⟩ [("script", v)]) ∧ ∀ base : Heap, K.In base → base.Ns mainGlobals mg → FnOk l.prog w K mg base (L2.CX l.prog w) 4 fa fd ["script"] (spLaw K) := by
  have e := hfa.symm.trans (PySem.W.mg_of X G a8)
  cases e
  have T : Txt K mg := { b_len := PySem.W.mg_none_of X G z_len, b_int := PySem.W.mg_none_of X G z_int, b_str := PySem.W.mg_none_of X G z_str, b_isinstance := PySem.W.mg_none_of X G z_isinstance, b_bool := PySem.W.mg_none_of X G z_bool, b_abs := PySem.W.mg_none_of X G z_abs, b_range := PySem.W.mg_none_of X G z_range, g_gcd := PySem.W.mg_of X G g_gcd, x_BadRatio := exOk_of (PySem.W.mg_of X G xa_BadRatio) xe_BadRatio xk_BadRatio xs_BadRatio xt_BadRatio, e_BadRatio_BadRatio := exm_mg (PySem.W.mg_of X G xa_BadRatio) (PySem.W.mg_of X G xa_BadRatio) (exm_pair xs_BadRatio xi_BadRatio xt_BadRatio p_BadRatio_BadRatio) }
  have F0 := fun_mk (st := s_whole) l0 c0 k0
  have F1 := fun_mk (st := s_write_ratio) l1 c1 k1
  have F2 := fun_mk (st := s_number_word) l2 c2 k2
  have F3 := fun_mk (st := s_read_ratio) l3 c3 k3
  have F4 := fun_mk (st := s__law_numbers) l4 c4 k4
  have F5 := fun_mk (st := s__law_gcd) l5 c5 k5
  have F6 := fun_mk (st := s__law_ratio) l6 c6 k6
  have F7 := fun_mk (st := s__law_refuses) l7 c7 k7
  have F8 := fun_mk (st := s_law) l8 c8 k8
  have B0 := F0.binds (ps := ["n"]) fun _ _ _ _ _ _ us hl => match us, hl with | [_], _ => rfl
  have B1 := F1.binds (ps := ["ratio"]) fun _ _ _ _ _ _ us hl => match us, hl with | [_], _ => rfl
  have B2 := F2.binds (ps := ["word"]) fun _ _ _ _ _ _ us hl => match us, hl with | [_], _ => rfl
  have B3 := F3.binds (ps := ["text"]) fun _ _ _ _ _ _ us hl => match us, hl with | [_], _ => rfl
  have B4 := F4.binds (ps := ["script", "count"]) fun _ _ _ _ _ _ us hl => match us, hl with | [_, _], _ => rfl
  have B5 := F5.binds (ps := ["a", "b"]) fun _ _ _ _ _ _ us hl => match us, hl with | [_, _], _ => rfl
  have B6 := F6.binds (ps := ["n", "d"]) fun _ _ _ _ _ _ us hl => match us, hl with | [_, _], _ => rfl
  have B7 := F7.binds (ps := ["text"]) fun _ _ _ _ _ _ us hl => match us, hl with | [_], _ => rfl
  refine ⟨PySem.W.fnOf "law" "law" (defArgs s_law) (defBody s_law) (defScope s_law) .none kV8 dc8 pm8 an8 cd8 ct8, fun s v => .of_eq rfl, fun base _ _ => ?_⟩
  have d_whole : DefOk l.prog w K mg base 1 "whole" Sp_whole := defOk F0 (PySem.W.mg_of X G a0) B0 (ok_whole F0 T )
  have d_write_ratio : DefOk l.prog w K mg base 1 "write_ratio" Sp_write_ratio := defOk F1 (PySem.W.mg_of X G a1) B1 (ok_write_ratio F1 T )
  have d_number_word : DefOk l.prog w K mg base 1 "number_word" Sp_number_word := defOk F2 (PySem.W.mg_of X G a2) B2 (ok_number_word F2 T )
  have d_read_ratio : DefOk l.prog w K mg base 2 "read_ratio" Sp_read_ratio := defOk F3 (PySem.W.mg_of X G a3) B3 (ok_read_ratio F3 T d_number_word d_whole)
  have d__law_numbers : DefOk l.prog w K mg base 1 "_law_numbers" Sp__law_numbers := defOk F4 (PySem.W.mg_of X G a4) B4 (ok__law_numbers F4 T )
  have d__law_gcd : DefOk l.prog w K mg base 1 "_law_gcd" Sp__law_gcd := defOk F5 (PySem.W.mg_of X G a5) B5 (ok__law_gcd F5 T )
  have d__law_ratio : DefOk l.prog w K mg base 2 "_law_ratio" Sp__law_ratio := defOk F6 (PySem.W.mg_of X G a6) B6 (ok__law_ratio F6 T d__law_gcd)
  have d__law_refuses : DefOk l.prog w K mg base 3 "_law_refuses" Sp__law_refuses := defOk F7 (PySem.W.mg_of X G a7) B7 (ok__law_refuses F7 T d_read_ratio)
  exact law_imp (ok_law F8 T d__law_numbers d__law_ratio d__law_refuses d_read_ratio d_write_ratio)
end DL
open PySem PySem.W PyProof.Rows
set_option maxRecDepth 100000 in
set_option maxHeartbeats 0 in
theorem PySem.Challenge.cw_watchshifts_k01_ratios_as_texts_holds : PySem.Challenge.rw_watchshifts_k01_ratios_as_texts.Holds := by
  w_on; o_law; k_head; (case hw => w_witness2)
  k_fill
  refine L2.walk_of (l := PySem.Challenge.rw_watchshifts_k01_ratios_as_texts) (n := 63) (k := 4) (x := "script") (CX := fun w => L2.CX PySem.Challenge.rw_watchshifts_k01_ratios_as_texts.prog w) (sp := fun w => DL.spLaw _) rfl (by decide) rfl ⟨rfl, by decide, by decide⟩ (fun w h Y => PySem.W.kIn_of Y) ?F (fun _ _ a ns hl _ hS => ⟨a, ns, rfl, hS, hl, fun _ => rfl⟩) (fun _ _ _ _ _ h => by obtain ⟨_, _, _, _, _, _, _, _, _, _, _, _, z⟩ := h; exact z)
  case F =>
    intro w mg fa h KX G hmg
    refine' DL.all_mk KX G hmg ?a0 ?l0 ?c0 ?k0 ?a1 ?l1 ?c1 ?k1 ?a2 ?l2 ?c2 ?k2 ?a3 ?l3 ?c3 ?k3 ?a4 ?l4 ?c4 ?k4 ?a5 ?l5 ?c5 ?k5 ?a6 ?l6 ?c6 ?k6 ?a7 ?l7 ?c7 ?k7 ?a8 ?l8 ?c8 ?k8 ?z_len ?z_int ?z_str ?z_isinstance ?z_bool ?z_abs ?z_range ?g_gcd ?xa_BadRatio ?xe_BadRatio ?xk_BadRatio ?xs_BadRatio ?xt_BadRatio ?xi_BadRatio ?p_BadRatio_BadRatio
    (case a0 => k_is)
    (case l0 => k_is)
    (case c0 => k_is)
    (case k0 => k_is)
    (case a1 => k_is)
    (case l1 => k_is)
    (case c1 => k_is)
    (case k1 => k_is)
    (case a2 => k_is)
    (case l2 => k_is)
    (case c2 => k_is)
    (case k2 => k_is)
    (case a3 => k_is)
    (case l3 => k_is)
    (case c3 => k_is)
    (case k3 => k_is)
    (case a4 => k_is)
    (case l4 => k_is)
    (case c4 => k_is)
    (case k4 => k_is)
    (case a5 => k_is)
    (case l5 => k_is)
    (case c5 => k_is)
    (case k5 => k_is)
    (case a6 => k_is)
    (case l6 => k_is)
    (case c6 => k_is)
    (case k6 => k_is)
    (case a7 => k_is)
    (case l7 => k_is)
    (case c7 => k_is)
    (case k7 => k_is)
    (case a8 => k_is)
    (case l8 => k_is)
    (case c8 => k_is)
    (case k8 => k_is)
    (case z_len => k_is)
    (case z_int => k_is)
    (case z_str => k_is)
    (case z_isinstance => k_is)
    (case z_bool => k_is)
    (case z_abs => k_is)
    (case z_range => k_is)
    (case g_gcd => k_is)
    (case xa_BadRatio => k_is)
    (case xe_BadRatio => k_exc)
    (case xk_BadRatio => k_is)
    (case xs_BadRatio => k_is)
    (case xt_BadRatio => k_is)
    (case xi_BadRatio => k_is)
    (case p_BadRatio_BadRatio => k_is)

