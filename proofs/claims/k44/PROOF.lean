import PyProof.Rows.All
import Wide.All
import OpenK.AllK
import Wide.FinOn
import HandS.ForMost
import HandS.Wide
import HandS.ExcCtx
import HandS.HotCalls
import HandS.HeadHook1
import HandS.Defaults
import HandS.IsInst
import HandS.WideBits
import HandS.List
import HandS.ExcIs
import HandS.ExcField
import KE.KExcIs
import KE.KExcSuper
import HandS.Nested
import HandS.ExcInit
import HandS.FStr
import HandS.Rev
import HandS.RevTup
import KE.KStateDown
import HandS.Head0
import HandS.Head1
import HandS.Head2
import HandS.HeadEnd
import HandS.HeadHook2
import HandS.HeadWalk
import HandS.Comp
import HandS.Property
import HandS.Zip
import HandS.Iter
import HandS.Style
import HandS.Text
import KE.KIndexOf
import HandS.OwnEq
import KE.KTupSum
import PySem.Challenge.RW_bitshades_k44_votes_at_a_word
set_option Elab.async false
set_option maxRecDepth 100000
set_option maxHeartbeats 4000000
set_option linter.unusedVariables false
/-! data-level layer, part a: values as trees, what stands in the heap -/
namespace DL
open PySem PySem.Spec PyProof.Rows L2

/-- a value as a tree of data -/
inductive D where
  | non | bl (b : Bool) | int (i : Int) | str (x : Str)
  | lst (ds : List D) | tup (ds : List D)
  | dic (ks : List Key) (ds : List D)
  | ins (c : Str) (fs : List Str) (ds : List D)
  | exc (c : Str) (a : Option D) (p : Addr) (oe : Obj)
  | sto
  | scr (ns : List Int)

/-- an error: its class by name, the value it bears -/
structure Er where
  c : Str
  a : Option D

/-- the name of the field an error of the class bears -/
def fieldOf (c : Str) : Str :=
  if c = "BadText" then "position" else if c = "Spent" then "allowed" else if c = "TooFewPlaces" then "places_found"
  else if c = "WrongPaper" then "paper_of" else if c = "UnknownName" then "missing" else if c = "NameTaken" then "taken" else "argument"

mutual
/-- v is d, told by the still part B -/
inductive Rp (K : PySem.W.Frag) (so : Option Addr) (B : Hp) : V → D → Prop
  | non : Rp K so B .non .non
  | bl (b : Bool) : Rp K so B (.bl b) (.bl b)
  | int (i : Int) : Rp K so B (.int i) (.int i)
  | str (x : Str) : Rp K so B (.str x) (.str x)
  | lst {p : Addr} {vs : List V} {ds : List D} : B p = some (.lst vs) → Rps K so B vs ds → Rp K so B (.ref p) (.lst ds)
  | tup {p : Addr} {vs : List V} {ds : List D} : SqT K B p vs → Rps K so B vs ds → Rp K so B (.ref p) (.tup ds)
  | dic {p : Addr} {ks : List Key} {vs : List V} {ds : List D} : B p = some (.dK (ks.zip vs)) → ks.length = vs.length → Rps K so B vs ds → Rp K so B (.ref p) (.dic ks ds)
  | ins {p dx : Addr} {c : Str} {fs : List Str} {vs : List V} {ds : List D} : B p = some (.ins (He.ga K c) dx (fs.zip vs)) → fs.length = vs.length → Rps K so B vs ds → Rp K so B (.ref p) (.ins c fs ds)
  | exn {p : Addr} {oe : Obj} {c : Str} : L2N.Zn (.ref (He.ga K c)) none oe → (∃ vs, oe.data = .fields vs) → Rp K so B (.ref p) (.exc c none p oe)
  | exa {p dd : Addr} {oe : Obj} {c : Str} {v : V} {a : D} : L2N.Zn (.ref (He.ga K c)) (some dd) oe → (∃ vs, oe.data = .fields vs) →
      B dd = some (.xd [(fieldOf c, v)]) → Rp K so B v a → Rp K so B (.ref p) (.exc c (some a) p oe)
  | sto {s : Addr} : so = some s → Rp K so B (.ref s) .sto
  | scr {p : Addr} {ns : List Int} : SqL K B p (ns.map V.int) → Rp K so B (.ref p) (.scr ns)
inductive Rps (K : PySem.W.Frag) (so : Option Addr) (B : Hp) : List V → List D → Prop
  | nil : Rps K so B [] []
  | cons {v : V} {vs : List V} {d : D} {ds : List D} : Rp K so B v d → Rps K so B vs ds → Rps K so B (v :: vs) (d :: ds)
end

theorem sqT_same {K : PySem.W.Frag} {H H' : Hp} {a : Addr} {xs : List V} (e : Same H H') (h : SqT K H a xs) : SqT K H' a xs := by
  rcases h with (h | ⟨o, h⟩) | h
  · exact .inl (.inl (e _ _ h))
  · exact .inl (.inr ⟨o, e _ _ h⟩)
  · exact .inr h

section
variable {K : PySem.W.Frag} {so : Option Addr} {B B' H H' : Hp}
mutual
theorem Rp.mono (e : Same B B') : ∀ {v : V} {d : D}, Rp K so B v d → Rp K so B' v d
  | _, _, .non => .non
  | _, _, .bl b => .bl b
  | _, _, .int i => .int i
  | _, _, .str x => .str x
  | _, _, .lst h r => .lst (e _ _ h) (Rps.mono e r)
  | _, _, .tup h r => .tup (sqT_same e h) (Rps.mono e r)
  | _, _, .dic h l r => .dic (e _ _ h) l (Rps.mono e r)
  | _, _, .ins h l r => .ins (e _ _ h) l (Rps.mono e r)
  | _, _, .exn z q => .exn z q
  | _, _, .exa z q x r => .exa z q (e _ _ x) (Rp.mono e r)
  | _, _, .sto h => .sto h
  | _, _, .scr h => .scr (e.seq h)
theorem Rps.mono (e : Same B B') : ∀ {vs : List V} {ds : List D}, Rps K so B vs ds → Rps K so B' vs ds
  | _, _, .nil => .nil
  | _, _, .cons h r => .cons (Rp.mono e h) (Rps.mono e r)
end
theorem Rps.len : ∀ {vs : List V} {ds : List D}, Rps K so B vs ds → vs.length = ds.length
  | _, _, .nil => rfl
  | _, _, .cons _ r => by rw [List.length_cons, List.length_cons, Rps.len r]
theorem Rps.get : ∀ {vs : List V} {ds : List D} {i : Nat} {d : D}, Rps K so B vs ds → ds[i]? = some d → ∃ v, vs[i]? = some v ∧ Rp K so B v d
  | _, _, _, _, .nil, e => by simp at e
  | _, _, 0, _, .cons h _, e => by simp at e; subst e; exact ⟨_, rfl, h⟩
  | _, _, i + 1, d, .cons _ r, e => by
    obtain ⟨v, h1, h2⟩ := Rps.get (i := i) (d := d) r (by simpa using e)
    exact ⟨v, by simpa using h1, h2⟩
theorem Rps.getV : ∀ {vs : List V} {ds : List D} {i : Nat} {v : V}, Rps K so B vs ds → vs[i]? = some v → ∃ d, ds[i]? = some d ∧ Rp K so B v d
  | _, _, _, _, .nil, e => by simp at e
  | _, _, 0, _, .cons h _, e => by simp at e; subst e; exact ⟨_, rfl, h⟩
  | _, _, i + 1, v, .cons _ r, e => by
    obtain ⟨d, h1, h2⟩ := Rps.getV (i := i) (v := v) r (by simpa using e)
    exact ⟨d, by simpa using h1, h2⟩
theorem Rps.append : ∀ {vs vs' : List V} {ds ds' : List D}, Rps K so B vs ds → Rps K so B vs' ds' → Rps K so B (vs ++ vs') (ds ++ ds')
  | _, _, _, _, .nil, s => s
  | _, _, _, _, .cons h r, s => .cons h (Rps.append r s)
theorem Rps.set {v : V} {d : D} (h : Rp K so B v d) : ∀ {vs : List V} {ds : List D} (i : Nat), Rps K so B vs ds → Rps K so B (vs.set i v) (ds.set i d)
  | _, _, _, .nil => .nil
  | _, _, 0, .cons _ r => .cons h r
  | _, _, i + 1, .cons q r => .cons q (Rps.set h i r)
theorem Rps.take : ∀ {vs : List V} {ds : List D} (n : Nat), Rps K so B vs ds → Rps K so B (vs.take n) (ds.take n)
  | _, _, 0, _ => .nil
  | _, _, _ + 1, .nil => .nil
  | _, _, n + 1, .cons h r => .cons h (Rps.take n r)
theorem Rps.drop : ∀ {vs : List V} {ds : List D} (n : Nat), Rps K so B vs ds → Rps K so B (vs.drop n) (ds.drop n)
  | _, _, 0, r => r
  | _, _, _ + 1, .nil => .nil
  | _, _, n + 1, .cons _ r => Rps.drop n r
theorem Rps.reverse : ∀ {vs : List V} {ds : List D}, Rps K so B vs ds → Rps K so B vs.reverse ds.reverse
  | _, _, .nil => .nil
  | _, _, .cons h r => by
    rw [List.reverse_cons, List.reverse_cons]
    exact Rps.append (Rps.reverse r) (.cons h .nil)
theorem Rps.ints : ∀ {vs : List V} (ns : List Int), vs = ns.map V.int → Rps K so B vs (ns.map D.int)
  | _, [], e => by subst e; exact .nil
  | _, n :: ns, e => by subst e; exact .cons (.int n) (Rps.ints ns rfl)
theorem Rps.ints_of : ∀ {vs : List V} {ns : List Int}, Rps K so B vs (ns.map D.int) → vs = ns.map V.int
  | _, [], h => by cases h; rfl
  | _, n :: ns, h => by
    cases h with
    | cons h1 h2 => cases h1; rw [Rps.ints_of h2]; rfl

/-! ### no list within -/
mutual
def NoL : D → Bool
  | .lst _ => false
  | .dic _ _ => false
  | .tup ds => NoLs ds
  | .ins _ _ ds => NoLs ds
  | .exc _ _ _ _ => false
  | .sto => false
  | .scr _ => false
  | _ => true
def NoLs : List D → Bool
  | [] => true
  | d :: ds => NoL d && NoLs ds
end

/-! ### a tree whose lists are all one's own: F their places -/
mutual
inductive Dpr (K : PySem.W.Frag) (so : Option Addr) (B H : Hp) : V → D → List Addr → Prop
  | leaf {v : V} {d : D} : Rp K so B v d → NoL d = true → Dpr K so B H v d []
  | lst {p : Addr} {vs : List V} {ds : List D} {F : List Addr} : H p = some (.lst vs) → Dprs K so B H vs ds F → Dpr K so B H (.ref p) (.lst ds) (p :: F)
  | tup {p : Addr} {vs : List V} {ds : List D} {F : List Addr} : SqT K B p vs → Dprs K so B H vs ds F → Dpr K so B H (.ref p) (.tup ds) F
inductive Dprs (K : PySem.W.Frag) (so : Option Addr) (B H : Hp) : List V → List D → List Addr → Prop
  | nil : Dprs K so B H [] [] []
  | cons {v : V} {vs : List V} {d : D} {ds : List D} {F G : List Addr} : Dpr K so B H v d F → Dprs K so B H vs ds G → Dprs K so B H (v :: vs) (d :: ds) (F ++ G)
end
mutual
theorem Dpr.mono (e : Same B B') : ∀ {v : V} {d : D} {F : List Addr}, (∀ p ∈ F, ∀ o, H p = some o → H' p = some o) → Dpr K so B H v d F → Dpr K so B' H' v d F
  | _, _, _, _, .leaf h n => .leaf (h.mono e) n
  | _, _, _, k, .lst h r => .lst (k _ List.mem_cons_self _ h) (Dprs.mono e (fun p hp => k p (List.mem_cons_of_mem _ hp)) r)
  | _, _, _, k, .tup h r => .tup (sqT_same e h) (Dprs.mono e k r)
theorem Dprs.mono (e : Same B B') : ∀ {vs : List V} {ds : List D} {F : List Addr}, (∀ p ∈ F, ∀ o, H p = some o → H' p = some o) → Dprs K so B H vs ds F → Dprs K so B' H' vs ds F
  | _, _, _, _, .nil => .nil
  | _, _, _, k, .cons h r => .cons (Dpr.mono e (fun p hp => k p (List.mem_append_left _ hp)) h) (Dprs.mono e (fun p hp => k p (List.mem_append_right _ hp)) r)
end
mutual
theorem Dpr.still (e : Same B B') : ∀ {v : V} {d : D} {F : List Addr}, (∀ p ∈ F, ∀ xs, H p = some (.lst xs) → B' p = some (.lst xs)) → Dpr K so B H v d F → Rp K so B' v d
  | _, _, _, _, .leaf h n => h.mono e
  | _, _, _, k, .lst h r => .lst (k _ List.mem_cons_self _ h) (Dprs.still e (fun p hp => k p (List.mem_cons_of_mem _ hp)) r)
  | _, _, _, k, .tup h r => .tup (sqT_same e h) (Dprs.still e k r)
theorem Dprs.still (e : Same B B') : ∀ {vs : List V} {ds : List D} {F : List Addr}, (∀ p ∈ F, ∀ xs, H p = some (.lst xs) → B' p = some (.lst xs)) → Dprs K so B H vs ds F → Rps K so B' vs ds
  | _, _, _, _, .nil => .nil
  | _, _, _, k, .cons h r => .cons (Dpr.still e (fun p hp => k p (List.mem_append_left _ hp)) h) (Dprs.still e (fun p hp => k p (List.mem_append_right _ hp)) r)
end
mutual
theorem Dpr.lists : ∀ {v : V} {d : D} {F : List Addr}, Dpr K so B H v d F → ∀ p ∈ F, ∃ xs, H p = some (.lst xs)
  | _, _, _, .leaf h n, p, hp => by cases hp
  | _, _, _, .lst h r, p, hp => by
    rcases List.mem_cons.mp hp with rfl | hp
    · exact ⟨_, h⟩
    · exact Dprs.lists r p hp
  | _, _, _, .tup h r, p, hp => Dprs.lists r p hp
theorem Dprs.lists : ∀ {vs : List V} {ds : List D} {F : List Addr}, Dprs K so B H vs ds F → ∀ p ∈ F, ∃ xs, H p = some (.lst xs)
  | _, _, _, .nil, p, hp => by cases hp
  | _, _, _, .cons h r, p, hp => by
    rcases List.mem_append.mp hp with hp | hp
    · exact Dpr.lists h p hp
    · exact Dprs.lists r p hp
end
end

/-! ### slots -/
/-- what is known of a name's value: nothing; a still value; a list of one's own, its items still; a value whose lists are all one's own -/
inductive Sl where
  | un
  | sh (d : D)
  | ow (p : Addr) (ds : List D)
  | dp (F : List Addr) (d : D)
def Sl.foot : Sl → List Addr
  | .ow p _ => [p]
  | .dp F _ => F
  | _ => []
def Sl.dat : Sl → D
  | .un => .non
  | .sh d => d
  | .ow _ ds => .lst ds
  | .dp _ d => d
def RepS (K : PySem.W.Frag) (so : Option Addr) (B H : Hp) : Option V → Sl → Prop
  | _, .un => True
  | some v, .sh d => Rp K so B v d
  | some v, .ow p ds => v = .ref p ∧ ∃ vs, H p = some (.lst vs) ∧ Rps K so B vs ds
  | some v, .dp F d => Dpr K so B H v d F
  | none, _ => False

/-- the store of draws, as it stands -/
def StoreAt (K : PySem.W.Frag) (B H : Hp) (s : Addr) : Prop :=
  ∃ (l : Addr) (ns : List Int) (i h m c : Int), H s = some (.lst [.ref l, .int i, .int h, .int m, .int c]) ∧ SqL K B l (ns.map V.int) ∧ 0 ≤ i ∧ 0 ≤ h
/-- what a body works over: the written part, the store, the still part and the heap at the entry, the wish about errors -/
structure Gx where
  K : PySem.W.Frag
  so : Option Addr
  B0 : Hp
  H0 : Hp
  EX : L2.St → XK
abbrev Roots := List (Option V × Sl)
def feet (R : Roots) : List Addr := R.flatMap fun r => r.2.foot
structure Rel (G : Gx) (R : Roots) (H B : Hp) : Prop where
  lo : Same G.B0 B
  hi : Same B H
  fr : ∀ a o, G.H0 a = some o → G.so ≠ some a → H a = some o
  nw : ∀ a xs, B a = some xs → G.H0 a ≠ none → G.B0 a ≠ none
  rep : ∀ r ∈ R, RepS G.K G.so B H r.1 r.2
  nd : (feet R).Nodup
  ap : ∀ p ∈ feet R, B p = none ∧ G.H0 p = none ∧ G.so ≠ some p
  st : ∀ s, G.so = some s → B s = none ∧ StoreAt G.K B H s
def RelE (G : Gx) (R : Roots) (H : Hp) : Prop := ∃ B, Rel G R H B
theorem feet_nil : feet [] = [] := rfl
theorem feet_cons (r : Option V × Sl) (R : Roots) : feet (r :: R) = r.2.foot ++ feet R := rfl
theorem feet_append (R R' : Roots) : feet (R ++ R') = feet R ++ feet R' := by unfold feet; exact List.flatMap_append
theorem feet_one (r : Option V × Sl) : feet [r] = r.2.foot := by rw [feet_cons, feet_nil, List.append_nil]
theorem mem_feet {R : Roots} {r : Option V × Sl} {p : Addr} (hr : r ∈ R) (hp : p ∈ r.2.foot) : p ∈ feet R := List.mem_flatMap.mpr ⟨r, hr, hp⟩
theorem RepS.lists {K : PySem.W.Frag} {so : Option Addr} {B H : Hp} {v : Option V} {x : Sl} (h : RepS K so B H v x) : ∀ p ∈ x.foot, ∃ xs, H p = some (.lst xs) := by
  intro p hp
  cases x with
  | un => cases hp
  | sh d => cases hp
  | ow q ds =>
    have e : p = q := by simpa [Sl.foot] using hp
    subst e
    cases v with
    | none => exact h.elim
    | some v => obtain ⟨_, vs, h2, _⟩ := h; exact ⟨vs, h2⟩
  | dp F d =>
    cases v with
    | none => exact h.elim
    | some v => exact Dpr.lists (show Dpr K so B H v d F from h) p hp
theorem RepS.mono {K : PySem.W.Frag} {so : Option Addr} {B B' H H' : Hp} {v : Option V} {x : Sl} (e : Same B B') (k : ∀ p ∈ x.foot, ∀ o, H p = some o → H' p = some o) (h : RepS K so B H v x) : RepS K so B' H' v x := by
  cases x with
  | un => cases v <;> trivial
  | sh d =>
    cases v with
    | none => exact h.elim
    | some v => exact Rp.mono e (show Rp K so B v d from h)
  | ow q ds =>
    cases v with
    | none => exact h.elim
    | some v => obtain ⟨h1, vs, h2, h3⟩ := h; exact ⟨h1, vs, k q (by simp [Sl.foot]) _ h2, h3.mono e⟩
  | dp F d =>
    cases v with
    | none => exact h.elim
    | some v => exact Dpr.mono e k (show Dpr K so B H v d F from h)
theorem StoreAt.mono {K : PySem.W.Frag} {B B' H H' : Hp} {s : Addr} (e : Same B B') (k : H' s = H s) (h : StoreAt K B H s) : StoreAt K B' H' s := by
  obtain ⟨l, ns, i, hh, m, c, h1, h2, h3⟩ := h
  exact ⟨l, ns, i, hh, m, c, k.trans h1, e.seq h2, h3⟩

section
variable {G : Gx} {R R' : Roots} {H H' B B' : Hp}
theorem Rel.foot_some (h : Rel G R H B) {p : Addr} (hp : p ∈ feet R) : ∃ xs, H p = some (.lst xs) := by
  obtain ⟨r, hr, hq⟩ := List.mem_flatMap.mp hp
  exact (h.rep r hr).lists p hq
theorem Rel.store_some (h : Rel G R H B) {s : Addr} (e : G.so = some s) : ∃ xs, H s = some (.lst xs) := by
  obtain ⟨_, l, ns, i, hh, m, c, h1, _⟩ := h.st s e
  exact ⟨_, h1⟩
/-- fewer roots, in another order -/
theorem Rel.sub (h : Rel G R H B) (hs : ∀ r ∈ R', r ∈ R) (hn : (feet R').Nodup) : Rel G R' H B :=
  ⟨h.lo, h.hi, h.fr, h.nw, fun r hr => h.rep r (hs r hr), hn, fun p hp => by
    obtain ⟨r, hr, hq⟩ := List.mem_flatMap.mp hp
    exact h.ap p (mem_feet (hs r hr) hq), h.st⟩
theorem Rel.perm (h : Rel G R H B) (hs : ∀ r ∈ R', r ∈ R) (hp : (feet R').Perm (feet R)) : Rel G R' H B := h.sub hs (hp.nodup_iff.mpr h.nd)
theorem Rel.sublist (h : Rel G R H B) (hs : R'.Sublist R) : Rel G R' H B := h.sub (fun r hr => hs.subset hr) (List.Nodup.sublist (by
  unfold feet
  clear h
  induction hs with
  | slnil => exact List.Sublist.refl _
  | cons a _ ih => rw [List.flatMap_cons]; exact ih.trans (List.sublist_append_right _ _)
  | cons_cons a _ ih => rw [List.flatMap_cons, List.flatMap_cons]; exact List.Sublist.append (List.Sublist.refl _) ih) h.nd)
/-- a still thing more -/
theorem Rel.addSh (h : Rel G R H B) {v : V} {d : D} (q : Rp G.K G.so B v d) : Rel G (R ++ [(some v, .sh d)]) H B :=
  ⟨h.lo, h.hi, h.fr, h.nw, fun r hr => by
    rcases List.mem_append.mp hr with hr | hr
    · exact h.rep r hr
    · have e : r = (some v, .sh d) := by simpa using hr
      subst e
      exact q, by rw [feet_append, feet_one]; simpa [Sl.foot] using h.nd, fun p hp => by
    rw [feet_append, feet_one] at hp
    exact h.ap p (by simpa [Sl.foot] using hp), h.st⟩
/-- the still part and the heap grow -/
theorem Rel.grow (h : Rel G R H B) (eB : Same B B') (eH : Same H H') (hi : Same B' H') (nw : ∀ a xs, B' a = some xs → B a = none → H a = none)
    (nf : ∀ p, H p ≠ none → (∃ xs, H p = some (.lst xs)) → B p = none → B' p = none) : Rel G R H' B' :=
  ⟨h.lo.trans eB, hi, fun a o e n => eH a o (h.fr a o e n), fun a xs e n => by
    cases q : B a with
    | none =>
      by_cases hs : G.so = some a
      · obtain ⟨x, hx⟩ := h.store_some hs
        rw [nw a xs e q] at hx
        cases hx
      · cases z : G.H0 a with
        | none => exact absurd z n
        | some o =>
          have := h.fr a o z hs
          rw [nw a xs e q] at this
          cases this
    | some o =>
      have e2 := eB a o q
      rw [e] at e2
      cases e2
      exact h.nw a xs q n, fun r hr => (h.rep r hr).mono eB (fun p _ o q => eH p o q), h.nd, fun p hp => by
    obtain ⟨a1, a2, a3⟩ := h.ap p hp
    obtain ⟨xs, hx⟩ := h.foot_some hp
    exact ⟨nf p (by rw [hx]; exact Option.some_ne_none _) ⟨xs, hx⟩ a1, a2, a3⟩, fun s e => by
    obtain ⟨s1, s2⟩ := h.st s e
    obtain ⟨xs, hx⟩ := h.store_some e
    exact ⟨nf s (by rw [hx]; exact Option.some_ne_none _) ⟨xs, hx⟩ s1, s2.mono eB ((eH s _ hx).trans hx.symm)⟩⟩
theorem same_upd {H : Hp} {p : Addr} {o : HO} (h : H p = none) : Same H (upd H p o) := fun b u e => by
  rw [upd_ne (ne_of_none e h)]
  exact e
theorem Rel.free (h : Rel G R H B) {p : Addr} (e : H p = none) : B p = none := h.hi.free e
/-- a new still object at p -/
theorem Rel.newB (h : Rel G R H B) {p : Addr} {o : HO} (e : H p = none) : Rel G R (upd H p o) (upd B p o) := by
  refine h.grow (same_upd (h.free e)) (same_upd e) (fun b u q => ?_) (fun a xs q n => ?_) (fun b q _ n => ?_)
  · by_cases hb : b = p
    · subst hb; rw [upd_same] at q ⊢; exact q
    · rw [upd_ne hb] at q ⊢; exact h.hi b u q
  · by_cases ha : a = p
    · subst ha; exact e
    · rw [upd_ne ha, n] at q; cases q
  · by_cases hb : b = p
    · subst hb; exact absurd e q
    · rw [upd_ne hb]; exact n
/-- a new object at p that is not told still -/
theorem Rel.newH (h : Rel G R H B) {p : Addr} {o : HO} (e : H p = none) : Rel G R (upd H p o) B :=
  h.grow (Same.refl _) (same_upd e) (h.hi.trans (same_upd e)) (fun a xs q n => by rw [n] at q; cases q) fun b q _ n => n
/-- a new list of one's own, its items still -/
theorem Rel.addOw (h : Rel G R H B) {p : Addr} {vs : List V} {ds : List D} (e : H p = none) (q : Rps G.K G.so B vs ds) : Rel G (R ++ [(some (.ref p), .ow p ds)]) (upd H p (.lst vs)) B := by
  have h1 := h.newH (o := .lst vs) e
  have nf : p ∉ feet R := fun hp => by
    obtain ⟨xs, hx⟩ := h.foot_some hp
    rw [e] at hx; cases hx
  refine ⟨h1.lo, h1.hi, h1.fr, h1.nw, fun r hr => ?_, ?_, fun b hb => ?_, h1.st⟩
  · rcases List.mem_append.mp hr with hr | hr
    · exact h1.rep r hr
    · have e2 : r = (some (.ref p), .ow p ds) := by simpa using hr
      subst e2
      exact ⟨rfl, vs, upd_same, q⟩
  · rw [feet_append, feet_one]
    exact List.nodup_append.mpr ⟨h.nd, by simp [Sl.foot], fun a ha b hb => by
      have e2 : b = p := by simpa [Sl.foot] using hb
      subst e2
      exact fun z => nf (z ▸ ha)⟩
  · rw [feet_append, feet_one] at hb
    rcases List.mem_append.mp hb with hb | hb
    · exact h1.ap b hb
    · have e2 : b = p := by simpa [Sl.foot] using hb
      subst e2
      refine ⟨h.free e, ?_, fun z => ?_⟩
      · cases z : G.H0 b with
        | none => rfl
        | some o =>
          by_cases hs : G.so = some b
          · obtain ⟨x, hx⟩ := h.store_some hs
            rw [e] at hx; cases hx
          · have := h.fr b o z hs
            rw [e] at this; cases this
      · obtain ⟨x, hx⟩ := h.store_some z
        rw [e] at hx; cases hx

/-- two heaps' still parts, the second where the first says nothing -/
def join (B C : Hp) : Hp := fun a => match B a with | some o => some o | none => C a
theorem join_l (B C : Hp) : Same B (join B C) := fun a o e => by unfold join; rw [e]
theorem join_r {B C : Hp} {a : Addr} (h : B a = none) : join B C a = C a := by unfold join; rw [h]
/-- a part of a heap -/
def part (H : Hp) (F : List Addr) : Hp := fun a => if a ∈ F then H a else none
theorem part_in {H : Hp} {F : List Addr} {a : Addr} (h : a ∈ F) : part H F a = H a := if_pos h
theorem part_out {H : Hp} {F : List Addr} {a : Addr} (h : a ∉ F) : part H F a = none := if_neg h
theorem feet_split {R₁ R₂ : Roots} {r : Option V × Sl} : feet (R₁ ++ r :: R₂) = feet R₁ ++ (r.2.foot ++ feet R₂) := by rw [feet_append, feet_cons]
/-- a root's lists are told still -/
theorem Rel.freeze {R₁ R₂ : Roots} {v : V} {x : Sl} (hx : x ≠ .un) (h : Rel G (R₁ ++ (some v, x) :: R₂) H B) : Rel G (R₁ ++ (some v, .sh x.dat) :: R₂) H (join B (part H x.foot)) := by
  have hmem : (some v, x) ∈ R₁ ++ (some v, x) :: R₂ := List.mem_append_right _ List.mem_cons_self
  have hnd := h.nd
  rw [feet_split] at hnd
  have hB : ∀ p ∈ x.foot, B p = none := fun p hp => (h.ap p (mem_feet hmem hp)).1
  have eq : ∀ a, a ∉ x.foot → join B (part H x.foot) a = B a := fun a ha => by
    unfold join
    rw [part_out ha]
    cases B a <;> rfl
  have ein : ∀ p, p ∈ x.foot → join B (part H x.foot) p = H p := fun p hp => by rw [join_r (hB p hp), part_in hp]
  have dis : ∀ p, p ∈ x.foot → p ∉ feet R₁ ∧ p ∉ feet R₂ := fun p hp => by
    obtain ⟨_, h2, h3⟩ := List.nodup_append.mp hnd
    obtain ⟨_, _, h4⟩ := List.nodup_append.mp h2
    exact ⟨fun z => h3 p z p (List.mem_append_left _ hp) rfl, fun z => h4 p hp p z rfl⟩
  refine ⟨h.lo.trans (join_l _ _), fun a o e => ?_, h.fr, fun a xs e n => ?_, fun r hr => ?_, ?_, fun p hp => ?_, fun s e => ?_⟩
  · by_cases ha : a ∈ x.foot
    · rw [ein a ha] at e; exact e
    · rw [eq a ha] at e; exact h.hi a o e
  · by_cases ha : a ∈ x.foot
    · exact absurd (h.ap a (mem_feet hmem ha)).2.1 n
    · rw [eq a ha] at e; exact h.nw a xs e n
  · rcases List.mem_append.mp hr with hr | hr
    · exact (h.rep r (List.mem_append_left _ hr)).mono (join_l _ _) fun p _ o e => e
    · rcases List.mem_cons.mp hr with rfl | hr
      · have q := h.rep _ hmem
        show Rp G.K G.so _ v x.dat
        cases x with
        | un => exact absurd rfl hx
        | sh d => exact Rp.mono (join_l _ _) (show Rp G.K G.so B v d from q)
        | ow p ds =>
          obtain ⟨e, vs, h1, h2⟩ : v = .ref p ∧ ∃ vs, H p = some (.lst vs) ∧ Rps G.K G.so B vs ds := q
          rw [e]
          exact .lst (by rw [ein p (by simp [Sl.foot])]; exact h1) (h2.mono (join_l _ _))
        | dp F d => exact Dpr.still (join_l _ _) (fun p hp xs e => by rw [ein p hp]; exact e) (show Dpr G.K G.so B H v d F from q)
      · exact (h.rep r (List.mem_append_right _ (List.mem_cons_of_mem _ hr))).mono (join_l _ _) fun p _ o e => e
  · rw [feet_split]
    refine hnd.sublist (List.Sublist.append (List.Sublist.refl _) ?_)
    show (([] : List Addr) ++ feet R₂).Sublist _
    exact List.sublist_append_right _ _
  · rw [feet_split] at hp
    have hp' : p ∈ feet R₁ ∨ p ∈ feet R₂ := by simpa [Sl.foot] using hp
    have hn : p ∉ x.foot := fun z => by
      obtain ⟨d1, d2⟩ := dis p z
      rcases hp' with q | q
      · exact d1 q
      · exact d2 q
    rw [eq p hn]
    refine h.ap p ?_
    rw [feet_split]
    rcases hp' with q | q
    · exact List.mem_append_left _ q
    · exact List.mem_append_right _ (List.mem_append_right _ q)
  · obtain ⟨s1, s2⟩ := h.st s e
    have hn : s ∉ x.foot := fun z => (h.ap s (mem_feet hmem z)).2.2 e
    exact ⟨by rw [eq s hn]; exact s1, s2.mono (join_l _ _) rfl⟩
/-- behind a call that was handed still things of B -/
theorem Rel.after {E : L2.St → XK} {r : Option V × Sl} (h : Rel G R H B) (k : Rel ⟨G.K, G.so, B, H, E⟩ [r] H' B') : Rel G (R ++ [r]) H' B' := by
  have keepF : ∀ p ∈ feet R, H' p = H p := fun p hp => by
    obtain ⟨xs, hx⟩ := h.foot_some hp
    rw [hx]
    exact k.fr p _ hx (h.ap p hp).2.2
  have bn : ∀ p ∈ feet R, B' p = none := fun p hp => by
    obtain ⟨xs, hx⟩ := h.foot_some hp
    cases q : B' p with
    | none => rfl
    | some o =>
      have e := k.hi p o q
      rw [keepF p hp, hx] at e
      cases e
      exact absurd (h.ap p hp).1 (k.nw p _ q (by show H p ≠ none; rw [hx]; exact Option.some_ne_none _))
  have newF : ∀ p ∈ r.2.foot, B' p = none ∧ H p = none ∧ G.so ≠ some p := fun p hp => k.ap p (mem_feet List.mem_cons_self hp)
  refine ⟨h.lo.trans k.lo, k.hi, fun a o e n => k.fr a o (h.fr a o e n) n, fun a xs e n => ?_, fun q hq => ?_, ?_, fun p hp => ?_, k.st⟩
  · by_cases hs : G.so = some a
    · have := (k.st a hs).1
      rw [e] at this; cases this
    · cases z : G.H0 a with
      | none => exact absurd z n
      | some o =>
        have e1 := h.fr a o z hs
        have e2 : B a ≠ none := k.nw a xs e (by show H a ≠ none; rw [e1]; exact Option.some_ne_none _)
        cases q : B a with
        | none => exact absurd q e2
        | some u =>
          have e3 := k.lo a u q
          rw [e] at e3
          cases e3
          exact h.nw a xs q n
  · rcases List.mem_append.mp hq with hq | hq
    · exact (h.rep q hq).mono k.lo fun p hp o e => by rw [keepF p (mem_feet hq hp)]; exact e
    · exact k.rep q hq
  · rw [feet_append]
    refine List.nodup_append.mpr ⟨h.nd, k.nd, fun a ha b hb z => ?_⟩
    subst z
    obtain ⟨xs, hx⟩ := h.foot_some ha
    have := (newF a (by rw [feet_one] at hb; exact hb)).2.1
    rw [hx] at this; cases this
  · rw [feet_append] at hp
    rcases List.mem_append.mp hp with hp | hp
    · exact ⟨bn p hp, (h.ap p hp).2.1, (h.ap p hp).2.2⟩
    · obtain ⟨n1, n2, n3⟩ := newF p (by rw [feet_one] at hp; exact hp)
      refine ⟨n1, ?_, n3⟩
      cases z : G.H0 p with
      | none => rfl
      | some o =>
        have e1 := h.fr p o z n3
        rw [n2] at e1; cases e1
/-- .. where an error came out -/
theorem Rel.after0 {E : L2.St → XK} (h : Rel G R H B) (k : Rel ⟨G.K, G.so, B, H, E⟩ [] H' B') : Rel G R H' B' := by
  have k2 : Rel ⟨G.K, G.so, B, H, E⟩ [(none, .un)] H' B' := ⟨k.lo, k.hi, k.fr, k.nw, fun r hr => by
    have e : r = (none, .un) := by simpa using hr
    subst e
    trivial, k.nd, k.ap, k.st⟩
  exact (h.after k2).sublist (List.sublist_append_left _ _)
/-- at a def's entry -/
theorem Rel.entry {K : PySem.W.Frag} {so : Option Addr} {E : L2.St → XK} (e : Same B H) (hr : ∀ r ∈ R, RepS K so B H r.1 r.2) (hf : feet R = []) (st : ∀ s, so = some s → B s = none ∧ StoreAt K B H s) : Rel ⟨K, so, B, H, E⟩ R H B :=
  ⟨Same.refl _, e, fun _ _ q _ => q, fun a xs q _ => by show B a ≠ none; rw [q]; exact Option.some_ne_none _, hr, by rw [hf]; exact List.nodup_nil, fun p hp => by rw [hf] at hp; exact (List.not_mem_nil hp).elim, st⟩
/-- the callee's view -/
theorem Rel.enter (h : Rel G R H B) {E : L2.St → XK} : Rel ⟨G.K, G.so, B, H, E⟩ [] H B := Rel.entry h.hi (fun r hr => by cases hr) rfl h.st
/-- a list of one's own is changed -/
theorem Rel.change {R₁ R₂ : Roots} {v : V} {p : Addr} {ds es : List D} {ws : List V} (h : Rel G (R₁ ++ (some v, .ow p ds) :: R₂) H B) (q : Rps G.K G.so B ws es) :
    Rel G (R₁ ++ (some v, .ow p es) :: R₂) (upd H p (.lst ws)) B := by
  have hmem : (some v, Sl.ow p ds) ∈ R₁ ++ (some v, .ow p ds) :: R₂ := List.mem_append_right _ List.mem_cons_self
  obtain ⟨a1, a2, a3⟩ := h.ap p (mem_feet hmem (by simp [Sl.foot]))
  have hnd := h.nd
  rw [feet_split] at hnd
  have dis : p ∉ feet R₁ ∧ p ∉ feet R₂ := by
    obtain ⟨_, h2, h3⟩ := List.nodup_append.mp hnd
    obtain ⟨_, _, h4⟩ := List.nodup_append.mp h2
    exact ⟨fun z => h3 p z p (List.mem_append_left _ (by simp [Sl.foot])) rfl, fun z => h4 p (by simp [Sl.foot]) p z rfl⟩
  have other : ∀ {r : Option V × Sl}, RepS G.K G.so B H r.1 r.2 → p ∉ r.2.foot → RepS G.K G.so B (upd H p (.lst ws)) r.1 r.2 := fun {r} hr hp =>
    hr.mono (Same.refl _) fun b hb o e => by
      have nb : b ≠ p := fun z => by subst z; exact hp hb
      rw [upd_ne nb]; exact e
  have feq : feet (R₁ ++ (some v, Sl.ow p es) :: R₂) = feet (R₁ ++ (some v, Sl.ow p ds) :: R₂) := by rw [feet_split, feet_split]; rfl
  refine ⟨h.lo, fun a o e => ?_, fun a o e n => ?_, h.nw, fun r hr => ?_, by rw [feq]; exact h.nd, by rw [feq]; exact h.ap, fun s e => ?_⟩
  · rw [upd_ne (ne_of_none e a1)]; exact h.hi a o e
  · rw [upd_ne (ne_of_none e a2)]; exact h.fr a o e n
  · rcases List.mem_append.mp hr with hr | hr
    · exact other (h.rep r (List.mem_append_left _ hr)) fun z => dis.1 (mem_feet hr z)
    · rcases List.mem_cons.mp hr with rfl | hr
      · obtain ⟨e, _⟩ : v = .ref p ∧ _ := h.rep _ hmem
        exact ⟨e, ws, upd_same, q⟩
      · exact other (h.rep r (List.mem_append_right _ (List.mem_cons_of_mem _ hr))) fun z => dis.2 (mem_feet hr z)
  · obtain ⟨s1, s2⟩ := h.st s e
    have ne : s ≠ p := fun z => a3 (z ▸ e)
    exact ⟨s1, s2.mono (Same.refl _) (upd_ne ne)⟩
end
end DL
set_option Elab.async false
set_option maxRecDepth 100000
set_option maxHeartbeats 4000000
set_option linter.unusedVariables false
/-! data-level layer, part b: readings of expressions -/
namespace DL
open PySem PySem.Spec PyProof.Rows L2

abbrev St := L2.St
abbrev DEnv := List Sl
abbrev EC := Er → DEnv → Prop
abbrev DT (α : Type) := DEnv → (α → DEnv → Prop) → EC → Prop
def Mono {α : Type} (w : DT α) : Prop := ∀ ⦃ρ : DEnv⦄ ⦃Q Q' : α → DEnv → Prop⦄ ⦃E E' : EC⦄, (∀ a ρ', Q a ρ' → Q' a ρ') → (∀ e ρ', E e ρ' → E' e ρ') → w ρ Q E → w ρ Q' E'

/-- an error as it lies -/
def RepX (K : PySem.W.Frag) (so : Option Addr) (B : Hp) (cls : Value) (d : Option Addr) (e : Er) : Prop :=
  cls = .ref (He.ga K e.c) ∧ match e.a with
    | none => d = none
    | some a => ∃ dd v, d = some dd ∧ B dd = some (.xd [(fieldOf e.c, v)]) ∧ Rp K so B v a
/-- what is wanted of an error: at the slots as they stand, over the roots τ -/
def xw (G : Gx) (τ : Roots) : EC := fun e ρ => ∀ (σ : St) (cls : Value) (d : Option Addr) (H B : Hp), ρ.length = σ.length → Rel G (σ.zip ρ ++ τ) H B → RepX G.K G.so B cls d e → G.EX σ cls d H
theorem xw_app {G : Gx} {τ t : Roots} (e : Er) (ρ : DEnv) (h : xw G τ e ρ) : xw G (τ ++ t) e ρ := fun σ cls d H B l hr hx =>
  h σ cls d H B l (hr.sublist (by rw [← List.append_assoc]; exact List.sublist_append_left _ _)) hx

/-- the state by data: the names' slots ρ over σ, further roots τ -/
structure At (G : Gx) (σ : St) (ρ : DEnv) (τ : Roots) (H : Hp) : Prop where
  len : ρ.length = σ.length
  rel : RelE G (σ.zip ρ ++ τ) H

def tD (G : Gx) (w : DT Sl) : TE := fun σ H Q => ∃ ρ τ, At G σ ρ τ H ∧ w ρ (fun x ρ' => x ≠ .un → ρ'.length = ρ.length → ∀ v H', At G σ ρ' (τ ++ [(some v, x)]) H' → Q v H') (xw G τ)
def tDB (G : Gx) (w : DT Bool) : TT := fun σ H Q => ∃ ρ τ, At G σ ρ τ H ∧ w ρ (fun b ρ' => ρ'.length = ρ.length → ∀ H', At G σ ρ' τ H' → Q b H') (xw G τ)
/-- arguments, each with its slot -/
def temps (vs : List V) (xs : List Sl) : Roots := (vs.map some).zip xs
def tDA (G : Gx) (n : Nat) (w : DT (List Sl)) : TA := fun σ H Q => ∃ ρ τ, At G σ ρ τ H ∧
  w ρ (fun xs ρ' => (∀ x ∈ xs, x ≠ .un) → xs.length = n → ρ'.length = ρ.length → ∀ vs H', vs.length = xs.length → At G σ ρ' (τ ++ temps vs xs) H' → Q vs H') (xw G τ)

structure DE (G : Gx) (X : Cx) (e : Expr) (w : DT Sl) : Prop where
  mono : Mono w
  pe : PE X e (tD G w)
structure DB (G : Gx) (X : Cx) (e : Expr) (w : DT Bool) : Prop where
  mono : Mono w
  pt : PT X e (tDB G w)
structure DA (G : Gx) (X : Cx) (es : List Expr) (w : DT (List Sl)) : Prop where
  mono : Mono w
  pa : PA X es (tDA G es.length w)

theorem pe_weak {X : Cx} {e : Expr} {t t' : TE} (h : PE X e t) (k : ∀ σ H Q, t' σ H Q → t σ H Q) : PE X e t' := ⟨fun pins s σ H Q I q => h.run pins s σ H Q I (k σ H Q q)⟩
theorem pt_weak {X : Cx} {e : Expr} {t t' : TT} (h : PT X e t) (k : ∀ σ H Q, t' σ H Q → t σ H Q) : PT X e t' := ⟨fun pins s σ H Q I q => h.run pins s σ H Q I (k σ H Q q)⟩
theorem pa_weak {X : Cx} {es : List Expr} {t t' : TA} (h : PA X es t) (k : ∀ σ H Q, t' σ H Q → t σ H Q) : PA X es t' := ⟨fun pos pins s σ H Q I q => h.run pos pins s σ H Q I (k σ H Q q)⟩

section
variable {G : Gx} {σ : St} {ρ ρ' : DEnv} {τ : Roots} {H H' : Hp}
theorem zip_split : ∀ {σ : St} {ρ : DEnv} {i : Nat} {x : Sl}, ρ.length = σ.length → ρ[i]? = some x → ∃ (L R : Roots) (v : Option V), σ[i]? = some v ∧ σ.zip ρ = L ++ (v, x) :: R ∧ ∀ y, σ.zip (ρ.set i y) = L ++ (v, y) :: R
  | [], [], i, x, _, e => by simp at e
  | [], _ :: _, i, x, l, e => by simp at l
  | _ :: _, [], i, x, l, e => by simp at l
  | s :: σ, r :: ρ, 0, x, l, e => by
    have e2 : r = x := by simpa using e
    subst e2
    exact ⟨[], σ.zip ρ, s, rfl, rfl, fun y => rfl⟩
  | s :: σ, r :: ρ, i + 1, x, l, e => by
    obtain ⟨L, R, v, h1, h2, h3⟩ := zip_split (σ := σ) (ρ := ρ) (i := i) (x := x) (by simpa using l) (by simpa using e)
    exact ⟨(s, r) :: L, R, v, by simpa using h1, by rw [List.zip_cons_cons, h2]; rfl, fun y => by
      show (s, r) :: σ.zip (ρ.set i y) = _
      rw [h3 y]; rfl⟩
/-- a name's value is told still -/
theorem At.freeze (h : At G σ ρ τ H) {i : Nat} {x : Sl} (e : ρ[i]? = some x) (hx : x ≠ .un) : ∃ v B, σ[i]? = some (some v) ∧ Rp G.K G.so B v x.dat ∧ (ρ.set i (.sh x.dat)).length = σ.length ∧ Rel G (σ.zip (ρ.set i (.sh x.dat)) ++ τ) H B := by
  obtain ⟨L, R, v, h1, h2, h3⟩ := zip_split h.len e
  obtain ⟨B, hr⟩ := h.rel
  rw [h2] at hr
  cases v with
  | none =>
    have q := hr.rep (none, x) (by simp)
    cases x with
    | un => exact absurd rfl hx
    | _ => exact q.elim
  | some v =>
    rw [List.append_assoc, List.cons_append] at hr
    have f := hr.freeze hx
    refine ⟨v, _, h1, f.rep (some v, .sh x.dat) (by simp), by rw [List.length_set]; exact h.len, ?_⟩
    rw [h3, List.append_assoc, List.cons_append]
    exact f
/-- the last root is told still -/
theorem At.freezeLast (h : At G σ ρ (τ ++ [(some v, x)]) H) (hx : x ≠ .un) : ∃ B, Rel G (σ.zip ρ ++ (τ ++ [(some v, .sh x.dat)])) H B := by
  obtain ⟨B, hr⟩ := h.rel
  rw [← List.append_assoc] at hr
  have f := Rel.freeze (R₁ := σ.zip ρ ++ τ) (R₂ := []) hx hr
  exact ⟨_, by rw [← List.append_assoc]; exact f⟩
theorem At.still (h : At G σ ρ (τ ++ [(some v, x)]) H) (hx : x ≠ .un) : ∃ B, Rp G.K G.so B v x.dat ∧ Rel G (σ.zip ρ ++ τ) H B := by
  obtain ⟨B, hr⟩ := h.freezeLast hx
  refine ⟨B, hr.rep (some v, .sh x.dat) (by simp), hr.sublist ?_⟩
  rw [← List.append_assoc]
  exact List.sublist_append_left _ _
theorem At.drop (h : At G σ ρ (τ ++ τ') H) : At G σ ρ τ H := by
  obtain ⟨B, hr⟩ := h.rel
  exact ⟨h.len, B, hr.sublist (by rw [← List.append_assoc]; exact List.sublist_append_left _ _)⟩
theorem At.mk' (l : ρ.length = σ.length) (hr : Rel G (σ.zip ρ ++ τ) H B) : At G σ ρ τ H := ⟨l, B, hr⟩
theorem At.addSh (l : ρ.length = σ.length) (hr : Rel G (σ.zip ρ ++ τ) H B) (q : Rp G.K G.so B v d) : At G σ ρ (τ ++ [(some v, .sh d)]) H := ⟨l, B, by rw [← List.append_assoc]; exact hr.addSh q⟩
theorem At.addOw (l : ρ.length = σ.length) (hr : Rel G (σ.zip ρ ++ τ) H B) {p : Addr} {vs : List V} {ds : List D} (e : H p = none) (q : Rps G.K G.so B vs ds) : At G σ ρ (τ ++ [(some (.ref p), .ow p ds)]) (upd H p (.lst vs)) :=
  ⟨l, B, by rw [← List.append_assoc]; exact hr.addOw e q⟩
theorem At.addNew (l : ρ.length = σ.length) (hr : Rel G (σ.zip ρ ++ τ) H B) {p : Addr} {o : HO} {d : D} (e : H p = none) (q : ∀ B', Same B B' → B' p = some o → Rp G.K G.so B' (.ref p) d) : At G σ ρ (τ ++ [(some (.ref p), .sh d)]) (upd H p o) :=
  At.addSh l (hr.newB e) (q _ (same_upd (hr.free e)) upd_same)
end

/-! ### names, constants -/
def wC (d : D) : DT Sl := fun ρ Q _ => Q (.sh d) ρ
/-- a name, its value handed on -/
def wVar (i : Nat) : DT Sl := fun ρ Q _ => match ρ[i]? with
  | some .un => False
  | none => False
  | some x => Q (.sh x.dat) (ρ.set i (.sh x.dat))
section
variable {G : Gx} {X : Cx} {pos : Pos}
theorem de_const {e : Expr} {v : V} {d : D} (h : PE X e (tC v)) (q : ∀ B, Rp G.K G.so B v d) : DE G X e (wC d) := by
  refine ⟨fun _ _ _ _ _ hq _ h => hq _ _ h, pe_weak h fun σ H Q hw => ?_⟩
  obtain ⟨ρ, τ, ⟨l, B, hr⟩, hw⟩ := hw
  exact hw (fun z => by cases z) rfl v H (At.addSh l hr (q B))
theorem de_int {i : Int} {j : Nat} : DE G X (.Constant (.int i) j pos) (wC (.int i)) := de_const pe_int fun _ => .int i
theorem de_bl {b : Bool} {j : Nat} : DE G X (.Constant (.bool b) j pos) (wC (.bl b)) := de_const pe_bl fun _ => .bl b
theorem de_non {j : Nat} : DE G X (.Constant .none j pos) (wC .non) := de_const pe_non fun _ => .non
theorem de_str {x : Str} {j : Nat} : DE G X (.Constant (.str x) j pos) (wC (.str x)) := de_const pe_str fun _ => .str x
theorem wVar_mono {i : Nat} : Mono (wVar i) := fun ρ _ _ _ _ hq _ h => by
  unfold wVar at h ⊢
  split at h
  · exact h.elim
  · exact h.elim
  · exact hq _ _ h
theorem de_var (i : Nat) {x : Str} (hN : X.N[i]? = some x := by rfl) (hv : Vis X.env.scope x := by first | exact Or.inl rfl | exact Or.inr (Or.inl rfl) | exact Or.inr (Or.inr rfl)) (hd : (x == ("__debug__" : Str)) = false := by decide)
    (hcd : (x == ("__classdict__" : Str)) = false := by decide) : DE G X (.Name x pos) (wVar i) := by
  refine ⟨wVar_mono, pe_weak (pe_var hN hv hd hcd) fun σ H Q hw => ?_⟩
  obtain ⟨ρ, τ, hA, hw⟩ := hw
  unfold wVar at hw
  split at hw
  · exact hw.elim
  · exact hw.elim
  · rename_i y hne e
    obtain ⟨v, B, h1, h2, h3, h4⟩ := hA.freeze e hne
    exact ⟨v, h1, hw (fun z => by cases z) (by rw [List.length_set]) v H (At.addSh h3 h4 h2)⟩
end

/-! ### two-place operations, by still data -/
abbrev RO2 := D → D → (Sl → Prop) → Prop
/-- ro tells of data what r tells of values -/
def OpD (G : Gx) (r : R2) (ro : RO2) : Prop := ∀ (σ : St) (ρ : DEnv) (τ : Roots) (x y : V) (d e : D) (H B : Hp) (Q : VK), ρ.length = σ.length → Rel G (σ.zip ρ ++ τ) H B → Rp G.K G.so B x d → Rp G.K G.so B y e →
  ro d e (fun z => z ≠ .un → ∀ v H', At G σ ρ (τ ++ [(some v, z)]) H' → Q v H') → r x y H Q
def MonoO (ro : RO2) : Prop := ∀ ⦃d e : D⦄ ⦃Q Q' : Sl → Prop⦄, (∀ z, Q z → Q' z) → ro d e Q → ro d e Q'
def wOp (ro : RO2) (wa wb : DT Sl) : DT Sl := fun ρ Q E => wa ρ (fun x ρ1 => wb ρ1 (fun y ρ2 => ro x.dat y.dat fun z => Q z ρ2) E) E
theorem wOp_mono {ro : RO2} {wa wb : DT Sl} (hm : MonoO ro) (ha : Mono wa) (hb : Mono wb) : Mono (wOp ro wa wb) := fun _ _ _ _ _ hq he h =>
  ha (fun _ _ h1 => hb (fun _ _ h2 => hm (fun _ h3 => hq _ _ h3) h2) he h1) he h
section
variable {G : Gx} {X : Cx} {a b : Expr} {wa wb : DT Sl} {pos : Pos}
/-- the reading of two parts in a row -/
theorem two_parts {σ : St} {H : Hp} {r : R2} {ro : RO2} {Q : VK} (hd : OpD G r ro) (hm : MonoO ro) (ha : Mono wa) (hb : Mono wb) (h : tD G (wOp ro wa wb) σ H Q) :
    tD G wa σ H fun x H1 => tD G wb σ H1 fun y H2 => r x y H2 Q := by
  obtain ⟨ρ, τ, hA, hw⟩ := h
  refine ⟨ρ, τ, hA, ha (fun x ρ1 h1 nx l1 v1 H1 A1 => ?_) (fun _ _ e => e) hw⟩
  refine ⟨ρ1, _, A1, hb (fun y ρ2 h2 ny l2 v2 H2 A2 => ?_) xw_app h1⟩
  obtain ⟨B, hr⟩ := A2.freezeLast ny
  have A3 : At G σ ρ2 (τ ++ [(some v1, x)] ++ [(some v2, .sh y.dat)]) H2 := ⟨A2.len, B, hr⟩
  obtain ⟨B', hr'⟩ := A3.rel
  rw [List.append_assoc, ← List.append_assoc] at hr'
  have f := Rel.freeze (R₁ := σ.zip ρ2 ++ τ) (R₂ := [(some v2, .sh y.dat)]) nx hr'
  refine hd σ ρ2 τ v1 v2 x.dat y.dat H2 _ Q A2.len (f.sublist (List.sublist_append_left _ _)) (f.rep (some v1, .sh x.dat) (by simp)) (f.rep (some v2, .sh y.dat) (by simp)) (hm (fun z hz nz v H' A' => hz nz (l2.trans l1) v H' A') h2)
theorem de_op {op : Operator} {r : R2} {ro : RO2} (ho : OpR X (binaryOp op) r) (hd : OpD G r ro) (hm : MonoO ro) (ha : DE G X a wa) (hb : DE G X b wb) : DE G X (.BinOp a op b pos) (wOp ro wa wb) :=
  ⟨wOp_mono hm ha.mono hb.mono, pe_weak (pe_op ho ha.pe hb.pe) fun σ H Q h => two_parts hd hm ha.mono hb.mono h⟩
theorem de_cmp {op : CmpOp} {r : R2} {ro : RO2} (ho : OpR X (compareOp op) r) (hd : OpD G r ro) (hm : MonoO ro) (ha : DE G X a wa) (hb : DE G X b wb) (hk : behindInMarks op b = false) : DE G X (.Compare a [op] [b] pos) (wOp ro wa wb) :=
  ⟨wOp_mono hm ha.mono hb.mono, pe_weak (pe_cmpR ho ha.pe hb.pe hk) fun σ H Q h => two_parts hd hm ha.mono hb.mono h⟩
end

/-! ### ints -/
def roI (C : Int → Int → Prop) (g : Int → Int → Int) : RO2 := fun d e Q => match d, e with
  | .int i, .int j => C i j ∧ Q (.sh (.int (g i j)))
  | _, _ => False
def roI0 (g : Int → Int → Int) : RO2 := fun d e Q => match d, e with
  | .int i, .int j => Q (.sh (.int (g i j)))
  | _, _ => False
def roB (g : Int → Int → Bool) : RO2 := fun d e Q => match d, e with
  | .int i, .int j => Q (.sh (.bl (g i j)))
  | _, _ => False
theorem roI_mono {C : Int → Int → Prop} {g : Int → Int → Int} : MonoO (roI C g) := fun d e _ _ hq h => by
  unfold roI at h ⊢
  split at h
  · exact ⟨h.1, hq _ h.2⟩
  · exact h
theorem roI0_mono {g : Int → Int → Int} : MonoO (roI0 g) := fun d e _ _ hq h => by
  unfold roI0 at h ⊢
  split at h
  · exact hq _ h
  · exact h
theorem roB_mono {g : Int → Int → Bool} : MonoO (roB g) := fun d e _ _ hq h => by
  unfold roB at h ⊢
  split at h
  · exact hq _ h
  · exact h
section
variable {G : Gx}
theorem od_I {C : Int → Int → Prop} {g : Int → Int → Int} : OpD G (rI C fun i j => .int (g i j)) (roI C g) := by
  intro σ ρ τ x y d e H B Q l hr hx hy h
  unfold roI at h
  split at h
  · cases hx; cases hy
    exact ⟨_, _, rfl, rfl, h.1, h.2 (fun z => by cases z) _ _ (At.addSh l hr (.int _))⟩
  · exact h.elim
theorem od_I0 {g : Int → Int → Int} : OpD G (rI0 fun i j => .int (g i j)) (roI0 g) := by
  intro σ ρ τ x y d e H B Q l hr hx hy h
  unfold roI0 at h
  split at h
  · cases hx; cases hy
    exact ⟨_, _, rfl, rfl, h (fun z => by cases z) _ _ (At.addSh l hr (.int _))⟩
  · exact h.elim
theorem od_B {g : Int → Int → Bool} : OpD G (rI0 fun i j => .bl (g i j)) (roB g) := by
  intro σ ρ τ x y d e H B Q l hr hx hy h
  unfold roB at h
  split at h
  · cases hx; cases hy
    exact ⟨_, _, rfl, rfl, h (fun z => by cases z) _ _ (At.addSh l hr (.bl _))⟩
  · exact h.elim
end
section
variable {G : Gx} {X : Cx} {a b : Expr} {wa wb : DT Sl} {pos : Pos}
/-- a product: one factor within 64 bits, or both together below a million bits -/
def CMulA (i j : Int) : Prop := CMul i j ∨ CMulW i j
theorem op_mulA : OpR X (binaryOp .Mult) (rI CMulA fun i j => .int (i * j)) := opI fun _ _ _ _ _ _ _ hc q => mul_int q (hc.elim CMul.ok CMulW.ok)
/-- a floor by a divisor that is not 0, below 9000 bits -/
def CDivA (_ j : Int) : Prop := j ≠ 0 ∧ j.natAbs.log2 < 9000
theorem op_fdivA : OpR X (binaryOp .FloorDiv) (rI CDivA fun i j => .int (i.fdiv j)) := opI fun i j _ _ _ _ _ hc q => floordiv_int hc.1 q (.inl (PyProof.noPylong_of_log2 hc.2))
abbrev CNz (_ j : Int) : Prop := j ≠ 0
abbrev CNn (_ j : Int) : Prop := 0 ≤ j
abbrev wAdd := wOp (roI0 fun i j => i + j)
abbrev wSub := wOp (roI0 fun i j => i - j)
abbrev wMul := wOp (roI CMulA fun i j => i * j)
abbrev wFdiv := wOp (roI CDivA fun i j => i.fdiv j)
abbrev wMod := wOp (roI CNz fun i j => i.fmod j)
abbrev wPow := wOp (roI CPow fun i j => i ^ j.toNat)
abbrev wShl := wOp (roI CPow fun i j => i * 2 ^ j.toNat)
abbrev wShr := wOp (roI CNn fun i j => i / 2 ^ j.toNat)
abbrev wAnd2 := wOp (roI0 fun i j => Builtin.bitAnd i j)
abbrev wOr2 := wOp (roI0 fun i j => Builtin.bitOr i j)
abbrev wXor2 := wOp (roI0 fun i j => Builtin.bitXor i j)
theorem de_add (ha : DE G X a wa) (hb : DE G X b wb) : DE G X (.BinOp a .Add b pos) (wAdd wa wb) := de_op op_add od_I0 roI0_mono ha hb
theorem de_sub (ha : DE G X a wa) (hb : DE G X b wb) : DE G X (.BinOp a .Sub b pos) (wSub wa wb) := de_op op_sub od_I0 roI0_mono ha hb
theorem de_mul (ha : DE G X a wa) (hb : DE G X b wb) : DE G X (.BinOp a .Mult b pos) (wMul wa wb) := de_op op_mulA od_I roI_mono ha hb
theorem de_fdiv (ha : DE G X a wa) (hb : DE G X b wb) : DE G X (.BinOp a .FloorDiv b pos) (wFdiv wa wb) := de_op op_fdivA od_I roI_mono ha hb
theorem de_mod (ha : DE G X a wa) (hb : DE G X b wb) : DE G X (.BinOp a .Mod b pos) (wMod wa wb) := de_op op_modN od_I roI_mono ha hb
theorem de_pow (ha : DE G X a wa) (hb : DE G X b wb) : DE G X (.BinOp a .Pow b pos) (wPow wa wb) := de_op op_pow od_I roI_mono ha hb
theorem de_shl (ha : DE G X a wa) (hb : DE G X b wb) : DE G X (.BinOp a .LShift b pos) (wShl wa wb) := de_op op_shl od_I roI_mono ha hb
theorem de_shr (ha : DE G X a wa) (hb : DE G X b wb) : DE G X (.BinOp a .RShift b pos) (wShr wa wb) := de_op op_shr od_I roI_mono ha hb
theorem de_and2 (ha : DE G X a wa) (hb : DE G X b wb) : DE G X (.BinOp a .BitAnd b pos) (wAnd2 wa wb) := de_op op_and od_I0 roI0_mono ha hb
theorem de_or2 (ha : DE G X a wa) (hb : DE G X b wb) : DE G X (.BinOp a .BitOr b pos) (wOr2 wa wb) := de_op op_or od_I0 roI0_mono ha hb
theorem de_xor2 (ha : DE G X a wa) (hb : DE G X b wb) : DE G X (.BinOp a .BitXor b pos) (wXor2 wa wb) := de_op op_xor od_I0 roI0_mono ha hb
abbrev wLt := wOp (roB fun i j => decide (i < j))
abbrev wLe := wOp (roB fun i j => decide (i ≤ j))
abbrev wGt := wOp (roB fun i j => decide (j < i))
abbrev wGe := wOp (roB fun i j => decide (j ≤ i))
theorem de_lt (ha : DE G X a wa) (hb : DE G X b wb) : DE G X (.Compare a [.Lt] [b] pos) (wLt wa wb) := de_cmp op_lt od_B roB_mono ha hb (nomark _)
theorem de_le (ha : DE G X a wa) (hb : DE G X b wb) : DE G X (.Compare a [.LtE] [b] pos) (wLe wa wb) := de_cmp op_le od_B roB_mono ha hb (nomark _)
theorem de_gt (ha : DE G X a wa) (hb : DE G X b wb) : DE G X (.Compare a [.Gt] [b] pos) (wGt wa wb) := de_cmp op_gt od_B roB_mono ha hb (nomark _)
theorem de_ge (ha : DE G X a wa) (hb : DE G X b wb) : DE G X (.Compare a [.GtE] [b] pos) (wGe wa wb) := de_cmp op_ge od_B roB_mono ha hb (nomark _)
end

/-! ### == and != of data -/
mutual
def toPy : D → Option PyData
  | .non => some .none
  | .bl b => some (.bool b)
  | .int i => some (.int i)
  | .str x => some (.str x)
  | .lst ds => (toPys ds).map .list
  | .tup ds => (toPys ds).map .tuple
  | _ => none
def toPys : List D → Option (List PyData)
  | [] => some []
  | d :: ds => match toPy d, toPys ds with
    | some p, some ps => some (p :: ps)
    | _, _ => none
end
section
variable {K : PySem.W.Frag} {so : Option Addr} {B H : Hp}
mutual
theorem Rp.dp (e : Same B H) : ∀ {v : V} {d : D} {p : PyData}, Rp K so B v d → toPy d = some p → Dp K H v p
  | _, _, _, .non, h => by simp only [toPy, Option.some.injEq] at h; subst h; exact .non
  | _, _, _, .bl b, h => by simp only [toPy, Option.some.injEq] at h; subst h; exact .bl b
  | _, _, _, .int i, h => by simp only [toPy, Option.some.injEq] at h; subst h; exact .int i
  | _, _, _, .str x, h => by simp only [toPy, Option.some.injEq] at h; subst h; exact .str x
  | _, .lst ds, _, .lst h r, q => by
    simp only [toPy, Option.map_eq_some_iff] at q
    obtain ⟨ps, q1, q2⟩ := q
    subst q2
    exact .lst (.inl (.inl (e _ _ h))) (Rps.dp e r q1)
  | _, .tup ds, _, .tup h r, q => by
    simp only [toPy, Option.map_eq_some_iff] at q
    obtain ⟨ps, q1, q2⟩ := q
    subst q2
    exact .tup (sqT_same e h) (Rps.dp e r q1)
  | _, _, _, .dic _ _ _, h => by simp [toPy] at h
  | _, _, _, .ins _ _ _, h => by simp [toPy] at h
  | _, _, _, .exn _ _, h => by simp [toPy] at h
  | _, _, _, .exa _ _ _ _, h => by simp [toPy] at h
  | _, _, _, .sto _, h => by simp [toPy] at h
  | _, _, _, .scr _, h => by simp [toPy] at h
theorem Rps.dp (e : Same B H) : ∀ {vs : List V} {ds : List D} {ps : List PyData}, Rps K so B vs ds → toPys ds = some ps → DpAll K H vs ps
  | _, _, _, .nil, h => by simp only [toPys, Option.some.injEq] at h; subst h; exact .nil
  | _, _, _, .cons (d := d) (ds := ds) h r, q => by
    unfold toPys at q
    split at q
    · rename_i p ps e1 e2
      simp only [Option.some.injEq] at q
      subst q
      exact .cons (Rp.dp e h e1) (Rps.dp e r e2)
    · cases q
end
end
def roEq (neg : Bool) : RO2 := fun d e Q => ∃ p q, toPy d = some p ∧ toPy e = some q ∧ SeqAt.shaped p = true ∧ SeqAt.shaped q = true ∧ Q (.sh (.bl (xor neg (PyData.eqv p q))))
theorem roEq_mono {neg : Bool} : MonoO (roEq neg) := fun _ _ _ _ hq ⟨p, q, a, b, c, d, h⟩ => ⟨p, q, a, b, c, d, hq _ h⟩
section
variable {G : Gx} {X : Cx} {a b : Expr} {wa wb : DT Sl} {pos : Pos}
theorem od_eq : OpD G (rEqD G.K) (roEq false) := by
  rintro σ ρ τ x y d e H B Q l hr hx hy ⟨p, q, h1, h2, h3, h4, h5⟩
  refine ⟨p, q, hx.dp hr.hi h1, hy.dp hr.hi h2, h3, h4, ?_⟩
  rw [Bool.false_xor] at h5
  exact h5 (fun z => by cases z) _ _ (At.addSh l hr (.bl _))
theorem od_ne : OpD G (rNeD G.K) (roEq true) := by
  rintro σ ρ τ x y d e H B Q l hr hx hy ⟨p, q, h1, h2, h3, h4, h5⟩
  refine ⟨p, q, hx.dp hr.hi h1, hy.dp hr.hi h2, h3, h4, ?_⟩
  rw [Bool.true_xor] at h5
  exact h5 (fun z => by cases z) _ _ (At.addSh l hr (.bl _))
theorem de_eq (hu : X.A.units + 64 < cLine) (hK : G.K = X.K) (ha : DE G X a wa) (hb : DE G X b wb) : DE G X (.Compare a [.Eq] [b] pos) (wOp (roEq false) wa wb) := de_cmp (op_eqD hu) (hK ▸ od_eq) roEq_mono ha hb (nomark _)
theorem de_ne (hu : X.A.units + 64 < cLine) (hK : G.K = X.K) (ha : DE G X a wa) (hb : DE G X b wb) : DE G X (.Compare a [.NotEq] [b] pos) (wOp (roEq true) wa wb) := de_cmp (op_neD hu) (hK ▸ od_ne) roEq_mono ha hb (nomark _)
end
end DL
set_option Elab.async false
set_option maxRecDepth 100000
set_option maxHeartbeats 4000000
set_option linter.unusedVariables false
/-! data-level layer, part c: tests, arguments, displays, calls -/
namespace DL
open PySem PySem.Spec PyProof.Rows L2

/-! ### tests -/
def wTest (w : DT Sl) : DT Bool := fun ρ Q E => w ρ (fun x ρ1 => match x.dat with
  | .bl b => Q b ρ1
  | _ => False) E
theorem wTest_mono {w : DT Sl} (h : Mono w) : Mono (wTest w) := fun _ _ _ _ _ hq he q => h (fun x ρ1 k => by
  split at k
  · exact hq _ _ k
  · exact k.elim) he q
def wTruth (w : DT Sl) : DT Bool := fun ρ Q E => w ρ (fun x ρ1 => match x.dat with
  | .bl b => Q b ρ1
  | .non => Q false ρ1
  | .int i => Q (i != 0) ρ1
  | .str y => y.length ≤ sizeLine ∧ Q ((y.length : Int) != 0) ρ1
  | .lst ds => Q (!ds.isEmpty) ρ1
  | .tup ds => Q (!ds.isEmpty) ρ1
  | _ => False) E
theorem wTruth_mono {w : DT Sl} (h : Mono w) : Mono (wTruth w) := fun _ _ _ _ _ hq he q => h (fun x ρ1 k => by
  split at k
  · exact hq _ _ k
  · exact hq _ _ k
  · exact hq _ _ k
  · exact ⟨k.1, hq _ _ k.2⟩
  · exact hq _ _ k
  · exact hq _ _ k
  · exact k.elim) he q
def wAndB (wa wb : DT Bool) : DT Bool := fun ρ Q E => wa ρ (fun c ρ1 => if c = true then wb ρ1 Q E else Q false ρ1) E
def wOrB (wa wb : DT Bool) : DT Bool := fun ρ Q E => wa ρ (fun c ρ1 => if c = true then Q true ρ1 else wb ρ1 Q E) E
def wNotB (wa : DT Bool) : DT Bool := fun ρ Q E => wa ρ (fun c ρ1 => Q (!c) ρ1) E
theorem wAndB_mono {wa wb : DT Bool} (ha : Mono wa) (hb : Mono wb) : Mono (wAndB wa wb) := fun _ _ _ _ _ hq he q => ha (fun c ρ1 k => by
  by_cases h : c = true
  · rw [if_pos h] at k ⊢; exact hb hq he k
  · rw [if_neg h] at k ⊢; exact hq _ _ k) he q
theorem wOrB_mono {wa wb : DT Bool} (ha : Mono wa) (hb : Mono wb) : Mono (wOrB wa wb) := fun _ _ _ _ _ hq he q => ha (fun c ρ1 k => by
  by_cases h : c = true
  · rw [if_pos h] at k ⊢; exact hq _ _ k
  · rw [if_neg h] at k ⊢; exact hb hq he k) he q
theorem wNotB_mono {wa : DT Bool} (ha : Mono wa) : Mono (wNotB wa) := fun _ _ _ _ _ hq he q => ha (fun c ρ1 k => hq _ _ k) he q
section
variable {G : Gx} {X : Cx} {a b c e : Expr} {w wa wb : DT Sl} {ta tb : DT Bool} {pos : Pos} {rest : List Expr}
theorem test_of {σ : St} {H : Hp} {Q : Bool → Hp → Prop} (hm : Mono w) (h : tDB G (wTest w) σ H Q) : tD G w σ H fun x H1 => ∃ k, x = .bl k ∧ Q k H1 := by
  obtain ⟨ρ, τ, hA, hw⟩ := h
  refine ⟨ρ, τ, hA, hm (fun x ρ1 k nx l v H1 A1 => ?_) (fun _ _ e => e) hw⟩
  obtain ⟨B, h1, h2⟩ := A1.still nx
  split at k
  · rename_i b e
    rw [e] at h1
    cases h1
    exact ⟨b, rfl, k l H1 (.mk' A1.len h2)⟩
  · exact k.elim
theorem db_val (h : DE G X e w) (he : ∀ whole, isTrue e X.env whole = (do let v ← whole; standAt e.pos; holding [v] (truthy v)) := by intro _; rfl) : DB G X e (wTest w) :=
  ⟨wTest_mono h.mono, pt_weak (pt_val h.pe he) fun σ H Q q => test_of h.mono q⟩
theorem db_truth (hK : G.K = X.K) (h : DE G X e w) (he : ∀ whole, isTrue e X.env whole = (do let v ← whole; standAt e.pos; holding [v] (truthy v)) := by intro _; rfl) : DB G X e (wTruth w) := by
  refine ⟨wTruth_mono h.mono, pt_weak (pt_truth h.pe he) fun σ H Q q => ?_⟩
  obtain ⟨ρ, τ, hA, hw⟩ := q
  refine ⟨ρ, τ, hA, h.mono (fun x ρ1 k nx l v H1 A1 => ?_) (fun _ _ e => e) hw⟩
  obtain ⟨B, h1, h2⟩ := A1.still nx
  have fin : ∀ k', (∀ H', At G σ ρ1 τ H' → Q k' H') → Q k' H1 := fun k' z => z H1 (.mk' A1.len h2)
  split at k
  · rename_i b e; rw [e] at h1; cases h1; exact ⟨b, rfl, fin _ (k l)⟩
  · rename_i e; rw [e] at h1; cases h1; exact ⟨false, rfl, fin _ (k l)⟩
  · rename_i i e; rw [e] at h1; cases h1; exact ⟨_, rfl, fin _ (k l)⟩
  · rename_i y e; rw [e] at h1; cases h1; exact ⟨_, ⟨k.1, rfl⟩, fin _ (k.2 l)⟩
  · rename_i ds e; rw [e] at h1
    cases h1 with
    | lst hs hr =>
      refine ⟨_, .inl ⟨_, .inl (.inl (h2.hi _ _ hs)), rfl⟩, ?_⟩
      have e2 := hr.len
      have e3 : ∀ {vs : List V}, vs.length = ds.length → vs.isEmpty = ds.isEmpty := fun {vs} q => by cases vs <;> cases ds <;> simp at q ⊢
      rw [e3 e2]
      exact fin _ (k l)
  · rename_i ds e; rw [e] at h1
    cases h1 with
    | tup hs hr =>
      rw [hK] at hs
      refine ⟨_, .inr (.inl ⟨_, sqT_same h2.hi hs, rfl⟩), ?_⟩
      have e2 := hr.len
      have e3 : ∀ {vs : List V}, vs.length = ds.length → vs.isEmpty = ds.isEmpty := fun {vs} q => by cases vs <;> cases ds <;> simp at q ⊢
      rw [e3 e2]
      exact fin _ (k l)
  · exact k.elim
theorem db_cmp {op : CmpOp} {r : R2} {ro : RO2} (ho : OpR X (compareOp op) r) (hd : OpD G r ro) (hm : MonoO ro) (ha : DE G X a wa) (hb : DE G X b wb) (hk : behindInMarks op b = false) : DB G X (.Compare a [op] [b] pos) (wTest (wOp ro wa wb)) :=
  ⟨wTest_mono (wOp_mono hm ha.mono hb.mono), pt_weak (pt_cmpR ho ha.pe hb.pe hk) fun σ H Q h => two_parts hd hm ha.mono hb.mono (test_of (wOp_mono hm ha.mono hb.mono) h)⟩
theorem db_lt (ha : DE G X a wa) (hb : DE G X b wb) : DB G X (.Compare a [.Lt] [b] pos) (wTest (wLt wa wb)) := db_cmp op_lt od_B roB_mono ha hb (nomark _)
theorem db_le (ha : DE G X a wa) (hb : DE G X b wb) : DB G X (.Compare a [.LtE] [b] pos) (wTest (wLe wa wb)) := db_cmp op_le od_B roB_mono ha hb (nomark _)
theorem db_gt (ha : DE G X a wa) (hb : DE G X b wb) : DB G X (.Compare a [.Gt] [b] pos) (wTest (wGt wa wb)) := db_cmp op_gt od_B roB_mono ha hb (nomark _)
theorem db_ge (ha : DE G X a wa) (hb : DE G X b wb) : DB G X (.Compare a [.GtE] [b] pos) (wTest (wGe wa wb)) := db_cmp op_ge od_B roB_mono ha hb (nomark _)
theorem db_eq (hu : X.A.units + 64 < cLine) (hK : G.K = X.K) (ha : DE G X a wa) (hb : DE G X b wb) : DB G X (.Compare a [.Eq] [b] pos) (wTest (wOp (roEq false) wa wb)) := db_cmp (op_eqD hu) (hK ▸ od_eq) roEq_mono ha hb (nomark _)
theorem db_ne (hu : X.A.units + 64 < cLine) (hK : G.K = X.K) (ha : DE G X a wa) (hb : DE G X b wb) : DB G X (.Compare a [.NotEq] [b] pos) (wTest (wOp (roEq true) wa wb)) := db_cmp (op_neD hu) (hK ▸ od_ne) roEq_mono ha hb (nomark _)
/-- x is None, x is not None -/
def roIsN (neg : Bool) : RO2 := fun d e Q => match e with
  | .non => (match d with
    | .non => Q (.sh (.bl (!neg)))
    | _ => Q (.sh (.bl neg)))
  | _ => False
theorem roIsN_mono {neg : Bool} : MonoO (roIsN neg) := fun d e _ _ hq h => by
  unfold roIsN at h ⊢
  split at h
  · split at h <;> exact hq _ h
  · exact h
theorem Rp.non_iff {K : PySem.W.Frag} {so : Option Addr} {B : Hp} {v : V} {d : D} (h : Rp K so B v d) (hd : d ≠ .non) : v ≠ .non := by
  cases h <;> first
    | exact absurd rfl hd
    | (intro z; cases z)
theorem od_isN : OpD G (fun x y H Q => y = .non ∧ Q (.bl (decide (x = .non))) H) (roIsN false) := by
  intro σ ρ τ x y d e H B Q l hr hx hy h
  unfold roIsN at h
  split at h
  · cases hy
    refine ⟨rfl, ?_⟩
    split at h
    · cases hx; exact h (fun z => by cases z) _ _ (At.addSh l hr (.bl _))
    · rename_i hd
      rw [decide_eq_false (hx.non_iff hd)]
      exact h (fun z => by cases z) _ _ (At.addSh l hr (.bl _))
  · exact h.elim
theorem od_notN : OpD G (fun x y H Q => y = .non ∧ Q (.bl (!decide (x = .non))) H) (roIsN true) := by
  intro σ ρ τ x y d e H B Q l hr hx hy h
  unfold roIsN at h
  split at h
  · cases hy
    refine ⟨rfl, ?_⟩
    split at h
    · cases hx; exact h (fun z => by cases z) _ _ (At.addSh l hr (.bl _))
    · rename_i hd
      rw [decide_eq_false (hx.non_iff hd)]
      exact h (fun z => by cases z) _ _ (At.addSh l hr (.bl _))
  · exact h.elim
theorem de_isN (ha : DE G X a wa) (hb : DE G X b wb) : DE G X (.Compare a [.Is] [b] pos) (wOp (roIsN false) wa wb) := de_cmp op_isN od_isN roIsN_mono ha hb (nomark _)
theorem de_notN (ha : DE G X a wa) (hb : DE G X b wb) : DE G X (.Compare a [.IsNot] [b] pos) (wOp (roIsN true) wa wb) := de_cmp op_notN od_notN roIsN_mono ha hb (nomark _)
theorem db_isN (ha : DE G X a wa) (hb : DE G X b wb) : DB G X (.Compare a [.Is] [b] pos) (wTest (wOp (roIsN false) wa wb)) := db_cmp op_isN od_isN roIsN_mono ha hb (nomark _)
theorem db_notN (ha : DE G X a wa) (hb : DE G X b wb) : DB G X (.Compare a [.IsNot] [b] pos) (wTest (wOp (roIsN true) wa wb)) := db_cmp op_notN od_notN roIsN_mono ha hb (nomark _)
/-- a chain of and, or, as a test -/
structure DW (G : Gx) (X : Cx) (e : Expr) (w : DT Bool) : Prop where
  mono : Mono w
  pw : PW X e (tDB G w)
theorem DW.db {w : DT Bool} (h : DW G X e w) : DB G X e w := ⟨h.mono, h.pw.pt⟩
theorem pw_weak {X : Cx} {e : Expr} {t t' : TT} (h : PW X e t) (k : ∀ σ H Q, t' σ H Q → t σ H Q) : PW X e t' := ⟨fun wh pins s σ H Q I q => h.run wh pins s σ H Q I (k σ H Q q)⟩
theorem dw_and1 (ha : DB G X a ta) : DW G X (.BoolOp .And [a] pos) ta := ⟨ha.mono, pw_and1 ha.pt⟩
theorem dw_or1 (ha : DB G X a ta) : DW G X (.BoolOp .Or [a] pos) ta := ⟨ha.mono, pw_or1 ha.pt⟩
theorem dw_and (ha : DB G X a ta) (hb : DW G X (.BoolOp .And (b :: rest) pos) tb) : DW G X (.BoolOp .And (a :: b :: rest) pos) (wAndB ta tb) := by
  refine ⟨wAndB_mono ha.mono hb.mono, pw_weak (pw_and ha.pt hb.pw) fun σ H Q h => ?_⟩
  obtain ⟨ρ, τ, hA, hw⟩ := h
  refine ⟨ρ, τ, hA, ha.mono (fun c ρ1 k l H1 A1 => ?_) (fun _ _ e => e) hw⟩
  by_cases z : c = true
  · rw [if_pos z] at k ⊢
    exact ⟨ρ1, τ, A1, hb.mono (fun c' ρ2 k2 l2 => k2 (l2.trans l)) (fun _ _ e => e) k⟩
  · rw [if_neg z] at k ⊢
    exact k l H1 A1
theorem dw_or (ha : DB G X a ta) (hb : DW G X (.BoolOp .Or (b :: rest) pos) tb) : DW G X (.BoolOp .Or (a :: b :: rest) pos) (wOrB ta tb) := by
  refine ⟨wOrB_mono ha.mono hb.mono, pw_weak (pw_or ha.pt hb.pw) fun σ H Q h => ?_⟩
  obtain ⟨ρ, τ, hA, hw⟩ := h
  refine ⟨ρ, τ, hA, ha.mono (fun c ρ1 k l H1 A1 => ?_) (fun _ _ e => e) hw⟩
  by_cases z : c = true
  · rw [if_pos z] at k ⊢
    exact k l H1 A1
  · rw [if_neg z] at k ⊢
    exact ⟨ρ1, τ, A1, hb.mono (fun c' ρ2 k2 l2 => k2 (l2.trans l)) (fun _ _ e => e) k⟩
theorem db_not (ha : DB G X a ta) : DB G X (.UnaryOp .Not a pos) (wNotB ta) := by
  refine ⟨wNotB_mono ha.mono, pt_weak (pt_not ha.pt) fun σ H Q h => ?_⟩
  exact h
/-- .. as values -/
def wAndV (wa wb : DT Sl) : DT Sl := fun ρ Q E => wa ρ (fun x ρ1 => match x.dat with
  | .bl true => wb ρ1 Q E
  | .bl false => Q (.sh (.bl false)) ρ1
  | _ => False) E
def wOrV (wa wb : DT Sl) : DT Sl := fun ρ Q E => wa ρ (fun x ρ1 => match x.dat with
  | .bl true => Q (.sh (.bl true)) ρ1
  | .bl false => wb ρ1 Q E
  | _ => False) E
def wNotV (wa : DT Sl) : DT Sl := fun ρ Q E => wa ρ (fun x ρ1 => match x.dat with
  | .bl c => Q (.sh (.bl (!c))) ρ1
  | _ => False) E
theorem wAndV_mono (ha : Mono wa) (hb : Mono wb) : Mono (wAndV wa wb) := fun _ _ _ _ _ hq he q => ha (fun c ρ1 k => by
  split at k
  · exact hb hq he k
  · exact hq _ _ k
  · exact k.elim) he q
theorem wOrV_mono (ha : Mono wa) (hb : Mono wb) : Mono (wOrV wa wb) := fun _ _ _ _ _ hq he q => ha (fun c ρ1 k => by
  split at k
  · exact hq _ _ k
  · exact hb hq he k
  · exact k.elim) he q
theorem wNotV_mono (ha : Mono wa) : Mono (wNotV wa) := fun _ _ _ _ _ hq he q => ha (fun c ρ1 k => by
  split at k
  · exact hq _ _ k
  · exact k.elim) he q
theorem de_one {op : BoolOp} (ha : DE G X a wa) : DE G X (.BoolOp op [a] pos) wa := ⟨ha.mono, pe_one ha.pe⟩
theorem de_and (ha : DE G X a wa) (hb : DE G X (.BoolOp .And (b :: rest) pos) wb) : DE G X (.BoolOp .And (a :: b :: rest) pos) (wAndV wa wb) := by
  refine ⟨wAndV_mono ha.mono hb.mono, pe_weak (pe_and ha.pe hb.pe) fun σ H Q h => ?_⟩
  obtain ⟨ρ, τ, hA, hw⟩ := h
  refine ⟨ρ, τ, hA, ha.mono (fun x ρ1 k nx l v H1 A1 => ?_) (fun _ _ e => e) hw⟩
  obtain ⟨B, h1, h2⟩ := A1.still nx
  split at k
  · rename_i e; rw [e] at h1; cases h1
    exact ⟨true, rfl, iteT ⟨ρ1, τ, .mk' A1.len h2, hb.mono (fun c' ρ2 k2 n2 l2 => k2 n2 (l2.trans l)) (fun _ _ e => e) k⟩⟩
  · rename_i e; rw [e] at h1; cases h1
    exact ⟨false, rfl, iteF (k (fun z => by cases z) l _ H1 (At.addSh A1.len h2 (.bl _)))⟩
  · exact k.elim
theorem de_or (ha : DE G X a wa) (hb : DE G X (.BoolOp .Or (b :: rest) pos) wb) : DE G X (.BoolOp .Or (a :: b :: rest) pos) (wOrV wa wb) := by
  refine ⟨wOrV_mono ha.mono hb.mono, pe_weak (pe_or ha.pe hb.pe) fun σ H Q h => ?_⟩
  obtain ⟨ρ, τ, hA, hw⟩ := h
  refine ⟨ρ, τ, hA, ha.mono (fun x ρ1 k nx l v H1 A1 => ?_) (fun _ _ e => e) hw⟩
  obtain ⟨B, h1, h2⟩ := A1.still nx
  split at k
  · rename_i e; rw [e] at h1; cases h1
    exact ⟨true, rfl, iteT (k (fun z => by cases z) l _ H1 (At.addSh A1.len h2 (.bl _)))⟩
  · rename_i e; rw [e] at h1; cases h1
    exact ⟨false, rfl, iteF ⟨ρ1, τ, .mk' A1.len h2, hb.mono (fun c' ρ2 k2 n2 l2 => k2 n2 (l2.trans l)) (fun _ _ e => e) k⟩⟩
  · exact k.elim
theorem de_not (ha : DE G X a wa) : DE G X (.UnaryOp .Not a pos) (wNotV wa) := by
  refine ⟨wNotV_mono ha.mono, pe_weak (pe_not ha.pe) fun σ H Q h => ?_⟩
  obtain ⟨ρ, τ, hA, hw⟩ := h
  refine ⟨ρ, τ, hA, ha.mono (fun x ρ1 k nx l v H1 A1 => ?_) (fun _ _ e => e) hw⟩
  obtain ⟨B, h1, h2⟩ := A1.still nx
  split at k
  · rename_i c e; rw [e] at h1; cases h1
    exact ⟨c, rfl, k (fun z => by cases z) l _ H1 (At.addSh A1.len h2 (.bl _))⟩
  · exact k.elim
/-- a if t else b -/
def wIfE (wt : DT Bool) (wa wb : DT Sl) : DT Sl := fun ρ Q E => wt ρ (fun c ρ1 => if c = true then wa ρ1 Q E else wb ρ1 Q E) E
theorem wIfE_mono {wt : DT Bool} (ht : Mono wt) (ha : Mono wa) (hb : Mono wb) : Mono (wIfE wt wa wb) := fun _ _ _ _ _ hq he q => ht (fun c ρ1 k => by
  by_cases z : c = true
  · rw [if_pos z] at k ⊢; exact ha hq he k
  · rw [if_neg z] at k ⊢; exact hb hq he k) he q
theorem de_ifExp {wt : DT Bool} (ht : DB G X c wt) (ha : DE G X a wa) (hb : DE G X b wb) : DE G X (.IfExp c a b pos) (wIfE wt wa wb) := by
  refine ⟨wIfE_mono ht.mono ha.mono hb.mono, pe_weak (pe_ifExp ht.pt ha.pe hb.pe) fun σ H Q h => ?_⟩
  obtain ⟨ρ, τ, hA, hw⟩ := h
  refine ⟨ρ, τ, hA, ht.mono (fun c ρ1 k l H1 A1 => ?_) (fun _ _ e => e) hw⟩
  by_cases z : c = true
  · rw [if_pos z] at k ⊢
    exact ⟨ρ1, τ, A1, ha.mono (fun c' ρ2 k2 n2 l2 => k2 n2 (l2.trans l)) (fun _ _ e => e) k⟩
  · rw [if_neg z] at k ⊢
    exact ⟨ρ1, τ, A1, hb.mono (fun c' ρ2 k2 n2 l2 => k2 n2 (l2.trans l)) (fun _ _ e => e) k⟩
/-- a one-place operation on an int -/
def wUn (g : Int → D) (wa : DT Sl) : DT Sl := fun ρ Q E => wa ρ (fun x ρ1 => match x.dat with
  | .int i => Q (.sh (g i)) ρ1
  | _ => False) E
theorem wUn_mono {g : Int → D} (ha : Mono wa) : Mono (wUn g wa) := fun _ _ _ _ _ hq he q => ha (fun c ρ1 k => by
  split at k
  · exact hq _ _ k
  · exact k.elim) he q
abbrev wNeg := wUn fun i => .int (-i)
theorem de_neg (ha : DE G X a wa) : DE G X (.UnaryOp .USub a pos) (wNeg wa) := by
  refine ⟨wUn_mono ha.mono, pe_weak (pe_un un_neg ha.pe) fun σ H Q h => ?_⟩
  obtain ⟨ρ, τ, hA, hw⟩ := h
  refine ⟨ρ, τ, hA, ha.mono (fun x ρ1 k nx l v H1 A1 => ?_) (fun _ _ e => e) hw⟩
  obtain ⟨B, h1, h2⟩ := A1.still nx
  split at k
  · rename_i c e; rw [e] at h1; cases h1
    exact ⟨c, rfl, k (fun z => by cases z) l _ H1 (At.addSh A1.len h2 (.int _))⟩
  · exact k.elim
end

/-! ### arguments, displays -/
def wNil : DT (List Sl) := fun ρ Q _ => Q [] ρ
def wCons (wa : DT Sl) (wr : DT (List Sl)) : DT (List Sl) := fun ρ Q E => wa ρ (fun x ρ1 => wr ρ1 (fun xs ρ2 => Q (x :: xs) ρ2) E) E
theorem wCons_mono {wa : DT Sl} {wr : DT (List Sl)} (ha : Mono wa) (hr : Mono wr) : Mono (wCons wa wr) := fun _ _ _ _ _ hq he q => ha (fun x ρ1 k => hr (fun xs ρ2 k2 => hq _ _ k2) he k) he q
def datas (xs : List Sl) : List D := xs.map Sl.dat
section
variable {G : Gx} {X : Cx} {e : Expr} {es : List Expr} {wa : DT Sl} {wr : DT (List Sl)} {pos : Pos}
theorem da_nil : DA G X [] wNil := by
  refine ⟨fun _ _ _ _ _ hq _ h => hq _ _ h, pa_weak pa_nil fun σ H Q h => ?_⟩
  obtain ⟨ρ, τ, hA, hw⟩ := h
  refine hw (fun x hx => by cases hx) rfl rfl [] H rfl ?_
  show At G σ ρ (τ ++ []) H
  rw [List.append_nil]
  exact hA
theorem da_cons (ha : DE G X e wa) (hr : DA G X es wr) (hs : starEach (e :: es) X.env = (false, eval e X.env) :: starEach es X.env := by rfl) : DA G X (e :: es) (wCons wa wr) := by
  refine ⟨wCons_mono ha.mono hr.mono, pa_weak (pa_cons ha.pe hr.pa hs) fun σ H Q h => ?_⟩
  obtain ⟨ρ, τ, hA, hw⟩ := h
  refine ⟨ρ, τ, hA, ha.mono (fun x ρ1 k nx l v H1 A1 => ?_) (fun _ _ e => e) hw⟩
  refine ⟨ρ1, _, A1, hr.mono (fun xs ρ2 k2 nxs ln l2 vs H2 lv A2 => ?_) xw_app k⟩
  refine k2 (fun y hy => ?_) (by rw [List.length_cons, List.length_cons, ln]) (l2.trans l) (v :: vs) H2 (by rw [List.length_cons, List.length_cons, lv]) ?_
  · rcases List.mem_cons.mp hy with rfl | hy
    · exact nx
    · exact nxs y hy
  · show At G σ ρ2 (τ ++ ((some v, x) :: temps vs xs)) H2
    rw [List.append_assoc] at A2
    exact A2
/-- the temporaries told still -/
theorem At.stills {σ : St} {ρ : DEnv} {τ : Roots} {H : Hp} : ∀ {vs : List V} {xs : List Sl}, vs.length = xs.length → (∀ x ∈ xs, x ≠ .un) → At G σ ρ (τ ++ temps vs xs) H → ∃ B, Rps G.K G.so B vs (datas xs) ∧ Rel G (σ.zip ρ ++ τ) H B := by
  intro vs
  induction vs generalizing τ with
  | nil =>
    intro xs lv _ hA
    cases xs with
    | nil =>
      obtain ⟨B, hr⟩ := hA.rel
      exact ⟨B, .nil, hr.sublist (by rw [← List.append_assoc]; exact List.sublist_append_left _ _)⟩
    | cons _ _ => cases lv
  | cons v vs ih =>
    intro xs lv nx hA
    cases xs with
    | nil => cases lv
    | cons x xs =>
      have A2 : At G σ ρ ((τ ++ [(some v, x)]) ++ temps vs xs) H := by
        have e : (τ ++ [(some v, x)]) ++ temps vs xs = τ ++ temps (v :: vs) (x :: xs) := by rw [List.append_assoc]; rfl
        rw [e]; exact hA
      obtain ⟨B, h1, h2⟩ := ih (by simpa using lv) (fun y hy => nx y (List.mem_cons_of_mem _ hy)) A2
      rw [← List.append_assoc] at h2
      have f := Rel.freeze (R₁ := σ.zip ρ ++ τ) (R₂ := []) (nx x List.mem_cons_self) h2
      exact ⟨_, .cons (f.rep (some v, .sh x.dat) (by simp)) (h1.mono (join_l _ _)), f.sublist (List.sublist_append_left _ _)⟩
/-- [a, b, ..]: a list of one's own, its items told still -/
def wLst (wa : DT (List Sl)) : DT Sl := fun ρ Q E => wa ρ (fun xs ρ1 => ∀ p, Q (.ow p (datas xs)) ρ1) E
def wTup (wa : DT (List Sl)) : DT Sl := fun ρ Q E => wa ρ (fun xs ρ1 => Q (.sh (.tup (datas xs))) ρ1) E
theorem de_lst (ha : DA G X es wr) (hz : es.length ≤ 1000 := by decide) : DE G X (.List es pos) (wLst wr) := by
  refine ⟨fun _ _ _ _ _ hq he q => ha.mono (fun xs ρ1 k p => hq _ _ (k p)) he q, pe_weak (pe_lst ha.pa) fun σ H Q h => ?_⟩
  obtain ⟨ρ, τ, hA, hw⟩ := h
  refine ⟨ρ, τ, hA, ha.mono (fun xs ρ1 k nxs ln l vs H1 lv A1 => ?_) (fun _ _ e => e) hw⟩
  obtain ⟨B, h1, h2⟩ := A1.stills lv nxs
  exact ⟨by rw [lv, ln, sizeLine_eq]; omega, fun p hp => k p (fun z => by cases z) l _ _ (At.addOw A1.len h2 hp h1)⟩
theorem de_tup {x1 : Nat} (ha : DA G X es wr) (hz : es.length ≤ 1000 := by decide) : DE G X (.Tuple es x1 pos) (wTup wr) := by
  refine ⟨fun _ _ _ _ _ hq he q => ha.mono (fun xs ρ1 k => hq _ _ k) he q, pe_weak (pe_tup ha.pa) fun σ H Q h => ?_⟩
  obtain ⟨ρ, τ, hA, hw⟩ := h
  refine ⟨ρ, τ, hA, ha.mono (fun xs ρ1 k nxs ln l vs H1 lv A1 => ?_) (fun _ _ e => e) hw⟩
  obtain ⟨B, h1, h2⟩ := A1.stills lv nxs
  exact ⟨by rw [lv, ln, sizeLine_eq]; omega, fun p hp => k (fun z => by cases z) l _ _ (At.addNew A1.len h2 hp fun B' e1 e2 => .tup (.inl (.inl e2)) (h1.mono e1))⟩
end

/-! ### what a def promises, by data; calls -/
abbrev DW1 := List D → (Sl → Prop) → (Er → Prop) → Prop
def MonoW (W : DW1) : Prop := ∀ ⦃ds : List D⦄ ⦃Q Q' : Sl → Prop⦄ ⦃E E' : Er → Prop⦄, (∀ x, Q x → Q' x) → (∀ e, E e → E' e) → W ds Q E → W ds Q' E'
def spD (K : PySem.W.Frag) (n : Nat) (W : DW1) : Sp := fun vs H Q E => ∃ (so : Option Addr) (B : Hp) (ds : List D), ds.length = n ∧ Same B H ∧ (∀ s, so = some s → B s = none ∧ StoreAt K B H s) ∧ Rps K so B vs ds ∧
  W ds (fun x => x ≠ .un → ∀ v H', RelE ⟨K, so, B, H, fun _ => E⟩ [(some v, x)] H' → Q v H') (fun e => ∀ B' cls d H', Rel ⟨K, so, B, H, fun _ => E⟩ [] H' B' → RepX K so B' cls d e → E cls d H')
/-- a def that is called by its name -/
structure FD (P : Program) (w : World) (K : PySem.W.Frag) (mg : Str → Option Value) (base : Heap) (k : Nat) (x : Str) (n : Nat) (W : DW1) : Prop where
  mono : MonoW W
  ex : ∃ (f : Addr) (fd : FuncData) (ps : List Str), ps.length = n ∧ mg x = some (.ref f) ∧ PySem.W.keepIn K (.ref f) = true ∧ FnOk P w K mg base (L2N.CX P w) k f fd ps (spD K n W) ∧ Binds K fd ps []
def wCall (W : DW1) (wa : DT (List Sl)) : DT Sl := fun ρ Q E => wa ρ (fun xs ρ1 => W (datas xs) (fun z => Q z ρ1) (fun e => E e ρ1)) E
theorem wCall_mono {W : DW1} {wa : DT (List Sl)} (hW : MonoW W) (ha : Mono wa) : Mono (wCall W wa) := fun _ _ _ _ _ hq he q => ha (fun xs ρ1 k => hW (fun z => hq _ _) (fun e => he _ _) k) he q
theorem feet_stills : ∀ {vs : List V} {ds : List D}, feet ((vs.zip ds).map fun q => (some q.1, Sl.sh q.2)) = []
  | [], _ => rfl
  | _ :: _, [] => rfl
  | v :: vs, d :: ds => by
    show feet ((some v, Sl.sh d) :: (vs.zip ds).map _) = []
    rw [feet_cons, feet_stills]; rfl
section
variable {G : Gx} {X : Cx} {e : Expr} {es : List Expr} {wr : DT (List Sl)} {p pos : Pos} {x : Str} {k n : Nat} {W : DW1}
/-- what is behind a call that was handed still things -/
theorem call_ends {σ : St} {ρ : DEnv} {τ : Roots} {H B : Hp} {Q : VK} {vs : List V} {ds : List D} (hW : MonoW W) (l : ρ.length = σ.length) (ln : ds.length = n) (hr : Rel G (σ.zip ρ ++ τ) H B) (hv : Rps G.K G.so B vs ds)
    (h : W ds (fun z => z ≠ .un → ∀ v H', At G σ ρ (τ ++ [(some v, z)]) H' → Q v H') (fun e => xw G τ e ρ)) : spD G.K n W vs H Q (G.EX σ) := by
  refine ⟨G.so, B, ds, ln, hr.hi, hr.st, hv, hW (fun z k nz v H' q => ?a) (fun e k B' cls d H' q hx => ?b) h⟩
  case a =>
    obtain ⟨B', q⟩ := q
    exact k nz v H' ⟨l, B', by rw [← List.append_assoc]; exact hr.after q⟩
  case b => exact k σ cls d H' B' l (hr.after0 q) hx
theorem de_call (F : FD X.prog X.w X.K X.mg X.base k x n W) (hr : Room k X.A) (hK : G.K = X.K) (tk : L2N.Takes X fun cls d σ H => G.EX σ cls d H) (ha : DA G X (e :: es) wr) (hn : es.length + 1 = n := by rfl) (hg : Gl X x := by rfl)
    (hdb : (x == ("__debug__" : Str)) = false := by decide) (he : starEach (e :: es) X.env = (false, eval e X.env) :: starEach es X.env := by rfl) (hpl : (backTo pos (starEach es X.env)).any (·.1) = false := by rfl) : DE G X (.Call (.Name x p) (e :: es) [] pos) (wCall W wr) := by
  obtain ⟨hW, f, fd, ps, hp, hm, hk, hF, hB⟩ := F
  refine ⟨wCall_mono hW ha.mono, pe_weak (pe_callS (E := fun σ => G.EX σ) hF hr hg hm hk hB (fun σ => L2N.passAt tk σ) ha.pa hdb he hpl) fun σ H Q h => ?_⟩
  obtain ⟨ρ, τ, hA, hw⟩ := h
  refine ⟨ρ, τ, hA, ha.mono (fun xs ρ1 k nxs ln l vs H1 lv A1 => ?_) (fun _ _ e => e) hw⟩
  obtain ⟨B, h1, h2⟩ := A1.stills lv nxs
  rw [← hK]
  exact call_ends hW A1.len (by unfold datas; rw [List.length_map, ln]; exact hn) h2 h1 (hW (fun z q nz => q nz l) (fun _ q => q) k)
theorem de_call0 (F : FD X.prog X.w X.K X.mg X.base k x 0 W) (hr : Room k X.A) (hK : G.K = X.K) (tk : L2N.Takes X fun cls d σ H => G.EX σ cls d H) (hE : ∀ σ σ' : St, G.EX σ = G.EX σ') (hg : Gl X x := by rfl)
    (hdb : (x == ("__debug__" : Str)) = false := by decide) : DE G X (.Call (.Name x p) [] [] pos) (wCall W wNil) := by
  obtain ⟨hW, f, fd, ps, hp, hm, hk, hF, hB⟩ := F
  have tk' : L2N.Takes X fun cls d _ H => G.EX [] cls d H := tk.imp fun c d σ H h => by rw [hE σ []]; exact h
  refine ⟨wCall_mono hW (fun _ _ _ _ _ hq _ h => hq _ _ h), pe_weak (pe_call0 (E := G.EX []) (dvs := []) hF hr hg hm hk hB .nil (L2N.passes_call tk' fun _ _ _ _ h => h) hdb) fun σ H Q h => ?_⟩
  obtain ⟨ρ, τ, hA, hw⟩ := h
  obtain ⟨B, h2⟩ := hA.rel
  rw [← hK, hE [] σ]
  exact call_ends hW hA.len rfl h2 .nil (hW (fun z q nz => q nz rfl) (fun _ q => q) hw)
end
end DL
set_option Elab.async false
set_option maxRecDepth 100000
set_option maxHeartbeats 4000000
set_option linter.unusedVariables false
/-! data-level layer, part d: statements, loops, a def's body -/
namespace DL
open PySem PySem.Spec PyProof.Rows L2

structure DEn where
  nx : DEnv → Prop
  rt : Sl → DEnv → Prop
  bk : DEnv → Prop := fun _ => False
  ct : DEnv → Prop := fun _ => False
abbrev DS := DEn → DEnv → EC → Prop
structure DEn.Le (N N' : DEn) : Prop where
  nx : ∀ ρ, N.nx ρ → N'.nx ρ
  rt : ∀ x ρ, N.rt x ρ → N'.rt x ρ
  bk : ∀ ρ, N.bk ρ → N'.bk ρ
  ct : ∀ ρ, N.ct ρ → N'.ct ρ
theorem DEn.Le.refl (D : DEn) : D.Le D := ⟨fun _ h => h, fun _ _ h => h, fun _ h => h, fun _ h => h⟩
def MonoS (w : DS) : Prop := ∀ ⦃ρ : DEnv⦄ ⦃N N' : DEn⦄ ⦃E E' : EC⦄, w N ρ E → N.Le N' → (∀ e ρ', E e ρ' → E' e ρ') → w N' ρ E'
/-- the ends by data: n the number of slots -/
def endsOf (G : Gx) (n : Nat) (τ : Roots) (D : Ends) : DEn where
  nx := fun ρ' => ρ'.length = n → ∀ σ' H', At G σ' ρ' τ H' → D.nx σ' H'
  rt := fun x ρ' => x ≠ .un → ρ'.length = n → ∀ v σ' H', At G σ' ρ' (τ ++ [(some v, x)]) H' → D.rt v H'
  bk := fun ρ' => ρ'.length = n → ∀ σ' H', At G σ' ρ' τ H' → D.bk σ' H'
  ct := fun ρ' => ρ'.length = n → ∀ σ' H', At G σ' ρ' τ H' → D.ct σ' H'
def tS (G : Gx) (w : DS) : TS := fun D σ H => ∃ ρ τ, At G σ ρ τ H ∧ w (endsOf G ρ.length τ D) ρ (xw G τ)
structure DSt (G : Gx) (X : Cx) (st : Stmt) (w : DS) : Prop where
  mono : MonoS w
  ps : PS X st (tS G w)
structure DSs (G : Gx) (X : Cx) (st : List Stmt) (w : DS) : Prop where
  mono : MonoS w
  ps : PSs X st (tS G w)
theorem ps_weak {X : Cx} {st : Stmt} {t t' : TS} (h : PS X st t) (k : ∀ D σ H, t' D σ H → t D σ H) : PS X st t' := ⟨fun pins s σ H D I q => h.run pins s σ H D I (k D σ H q)⟩
theorem pss_weak {X : Cx} {st : List Stmt} {t t' : TS} (h : PSs X st t) (k : ∀ D σ H, t' D σ H → t D σ H) : PSs X st t' := ⟨fun pins s σ H D I q => h.run pins s σ H D I (k D σ H q)⟩

/-! ### blocks, small statements -/
def wNext : DS := fun D ρ _ => D.nx ρ
def wSeq (w u : DS) : DS := fun D ρ E => w { D with nx := fun ρ' => u D ρ' E } ρ E
def wRet (w : DT Sl) : DS := fun D ρ E => w ρ (fun x ρ1 => D.rt x ρ1) E
def wRetN : DS := fun D ρ _ => D.rt (.sh .non) ρ
def wDrop (w : DT Sl) : DS := fun D ρ E => w ρ (fun _ ρ1 => D.nx ρ1) E
def wBreak : DS := fun D ρ _ => D.bk ρ
def wCont : DS := fun D ρ _ => D.ct ρ
def wIf (c : DT Bool) (t u : DS) : DS := fun D ρ E => c ρ (fun b ρ1 => if b = true then t D ρ1 E else u D ρ1 E) E
def wSet (i : Nat) (w : DT Sl) : DS := fun D ρ E => w ρ (fun x ρ1 => D.nx (ρ1.set i x)) E
section
variable {G : Gx} {X : Cx} {st : Stmt} {rest : List Stmt} {t u : DS} {e : Expr} {w : DT Sl} {pos : Pos}
theorem wSeq_mono (ht : MonoS t) (hu : MonoS u) : MonoS (wSeq t u) := fun _ _ _ _ _ h hd he => ht h ⟨fun ρ k => hu k hd he, hd.rt, hd.bk, hd.ct⟩ he
theorem dss_nil : DSs G X [] wNext := ⟨fun _ _ _ _ _ h hd _ => hd.nx _ h, pss_weak pss_nil fun D σ H h => by
  obtain ⟨ρ, τ, hA, hw⟩ := h
  exact hw rfl σ H hA⟩
theorem dss_cons (h1 : DSt G X st t) (h2 : DSs G X rest u) : DSs G X (st :: rest) (wSeq t u) := by
  refine ⟨wSeq_mono h1.mono h2.mono, pss_weak (pss_cons h1.ps h2.ps) fun D σ H h => ?_⟩
  obtain ⟨ρ, τ, hA, hw⟩ := h
  refine ⟨ρ, τ, hA, h1.mono hw ⟨fun ρ' k l σ' H' A' => ?_, fun _ _ k => k, fun _ k => k, fun _ k => k⟩ (fun _ _ k => k)⟩
  exact ⟨ρ', τ, A', by rw [l]; exact k⟩
theorem dss_one (h1 : DSt G X st t) : DSs G X [st] t := ⟨h1.mono, pss_one h1.ps⟩
theorem ds_pass : DSt G X (.Pass pos) wNext := ⟨fun _ _ _ _ _ h hd _ => hd.nx _ h, ps_weak ps_pass fun D σ H h => by
  obtain ⟨ρ, τ, hA, hw⟩ := h
  exact hw rfl σ H hA⟩
theorem ds_break : DSt G X (.Break pos) wBreak := ⟨fun _ _ _ _ _ h hd _ => hd.bk _ h, ps_weak ps_break fun D σ H h => by
  obtain ⟨ρ, τ, hA, hw⟩ := h
  exact hw rfl σ H hA⟩
theorem ds_continue : DSt G X (.Continue pos) wCont := ⟨fun _ _ _ _ _ h hd _ => hd.ct _ h, ps_weak ps_continue fun D σ H h => by
  obtain ⟨ρ, τ, hA, hw⟩ := h
  exact hw rfl σ H hA⟩
theorem ds_ret (he : DE G X e w) : DSt G X (.Return (some e) pos) (wRet w) := by
  refine ⟨fun _ _ _ _ _ q hd h => he.mono (fun x ρ1 k => hd.rt x ρ1 k) h q, ps_weak (ps_ret he.pe) fun D σ H h => ?_⟩
  obtain ⟨ρ, τ, hA, hw⟩ := h
  refine ⟨ρ, τ, hA, he.mono (fun x ρ1 k nx l v H1 A1 => ?_) (fun _ _ k => k) hw⟩
  exact k nx l v σ H1 A1
theorem ds_retN : DSt G X (.Return none pos) wRetN := by
  refine ⟨fun _ _ _ _ _ q hd h => hd.rt _ _ q, ps_weak ps_retN fun D σ H h => ?_⟩
  obtain ⟨ρ, τ, hA, hw⟩ := h
  obtain ⟨B, hr⟩ := hA.rel
  exact hw (fun z => by cases z) rfl .non σ H (At.addSh hA.len hr .non)
theorem ds_expr (he : DE G X e w) (hs : swapsWith e none pos.line X.env = pure false := by rfl) : DSt G X (.Expr e pos) (wDrop w) := by
  refine ⟨fun _ _ _ _ _ q hd h => he.mono (fun x _ k => hd.nx _ k) h q, ps_weak (ps_expr he.pe hs) fun D σ H h => ?_⟩
  obtain ⟨ρ, τ, hA, hw⟩ := h
  exact ⟨ρ, τ, hA, he.mono (fun x ρ1 k nx l v H1 A1 => k l σ H1 A1.drop) (fun _ _ k => k) hw⟩
theorem ds_doc {x : Str} {j : Nat} {pos' : Pos} : DSt G X (.Expr (.Constant (.str x) j pos) pos') wNext := ⟨fun _ _ _ _ _ h hd _ => hd.nx _ h, ps_weak ps_doc fun D σ H h => by
  obtain ⟨ρ, τ, hA, hw⟩ := h
  exact hw rfl σ H hA⟩
theorem ds_if {c : Expr} {a b : List Stmt} {wc : DT Bool} (hc : DB G X c wc) (ha : DSs G X a t) (hb : DSs G X b u) : DSt G X (.If c a b pos) (wIf wc t u) := by
  refine ⟨fun _ _ _ _ _ q hd h => hc.mono (fun b ρ1 k => ?_) h q, ps_weak (ps_if hc.pt ha.ps hb.ps) fun D σ H h => ?_⟩
  · by_cases z : b = true
    · rw [if_pos z] at k ⊢; exact ha.mono k hd h
    · rw [if_neg z] at k ⊢; exact hb.mono k hd h
  · obtain ⟨ρ, τ, hA, hw⟩ := h
    refine ⟨ρ, τ, hA, hc.mono (fun b ρ1 k l H1 A1 => ?_) (fun _ _ k => k) hw⟩
    by_cases z : b = true
    · rw [if_pos z] at k ⊢; exact ⟨ρ1, τ, A1, by rw [l]; exact k⟩
    · rw [if_neg z] at k ⊢; exact ⟨ρ1, τ, A1, by rw [l]; exact k⟩
theorem set_zip : ∀ {σ : St} {ρ : DEnv} {i : Nat} {v : Option V} {x : Sl}, (σ.set i v).zip (ρ.set i x) = (σ.zip ρ).set i (v, x)
  | [], _, _, _, _ => by simp
  | _ :: _, [], _, _, _ => by simp
  | s :: σ, r :: ρ, 0, v, x => rfl
  | s :: σ, r :: ρ, i + 1, v, x => by
    show (s, r) :: (σ.set i v).zip (ρ.set i x) = (s, r) :: (σ.zip ρ).set i (v, x)
    rw [set_zip]
/-- the last root goes to a name -/
theorem At.store {σ : St} {ρ : DEnv} {τ : Roots} {H : Hp} {v : V} {x : Sl} (i : Nat) (h : At G σ ρ (τ ++ [(some v, x)]) H) : At G (σ.set i (some v)) (ρ.set i x) τ H := by
  refine ⟨by rw [List.length_set, List.length_set]; exact h.len, ?_⟩
  obtain ⟨B, hr⟩ := h.rel
  by_cases hi : i < ρ.length
  · obtain ⟨L, R, u, h1, h2, h3⟩ := zip_split h.len (List.getElem?_eq_getElem hi)
    have e : (σ.zip ρ).set i (some v, x) = L ++ (some v, x) :: R := by
      have hl : L.length = i := by
        have e1 := h3 .un
        have e2 : (σ.zip (ρ.set i .un))[L.length]? = some (u, .un) := by rw [e1]; simp
        have hlt : L.length < (σ.zip ρ).length := by rw [h2]; simp
        have hlt2 : L.length < ρ.length := by
          rw [List.length_zip] at hlt; omega
        have key : ∀ (σ : St) (ρ : DEnv) (i : Nat) (x : Sl), ρ.length = σ.length → ρ[i]? = some x → ∀ (L R : Roots) (v : Option V), (∀ y, σ.zip (ρ.set i y) = L ++ (v, y) :: R) → L.length = i := by
          intro σ ρ i x l e L R v hy
          have a1 : (σ.zip (ρ.set i .un))[L.length]? = some (v, .un) := by rw [hy]; simp
          have a2 : (σ.zip (ρ.set i (.sh .non)))[L.length]? = some (v, .sh .non) := by rw [hy]; simp
          by_cases q : L.length = i
          · exact q
          · have b1 : (ρ.set i .un)[L.length]? = ρ[L.length]? := List.getElem?_set_ne (Ne.symm q)
            have b2 : (ρ.set i (.sh .non))[L.length]? = ρ[L.length]? := List.getElem?_set_ne (Ne.symm q)
            rw [List.getElem?_zip_eq_some] at a1 a2
            have c1 := a1.2
            have c2 := a2.2
            rw [b1] at c1; rw [b2, c1] at c2
            cases c2
        exact key σ ρ i _ h.len (List.getElem?_eq_getElem hi) L R u h3
      rw [h2, List.set_append_right _ _ (by omega), hl, Nat.sub_self]
      rfl
    refine ⟨B, ?_⟩
    rw [set_zip, e]
    rw [h2] at hr
    have s1 := hr.sublist (R' := (L ++ R) ++ (τ ++ [(some v, x)])) (List.Sublist.append (List.Sublist.append (List.Sublist.refl _) (List.sublist_cons_self _ _)) (List.Sublist.refl _))
    refine s1.perm (fun r hr => ?_) ?_
    · simp only [List.mem_append, List.mem_cons, List.not_mem_nil, or_false] at hr ⊢
      rcases hr with (hr | hr | hr) | hr
      · exact .inl (.inl hr)
      · exact .inr (.inr hr)
      · exact .inl (.inr hr)
      · exact .inr (.inl hr)
    · rw [feet_append, feet_append, feet_append, feet_append, feet_append, feet_cons, feet_one]
      have p1 : (feet L ++ (x.foot ++ feet R) ++ feet τ).Perm (feet L ++ (feet R ++ feet τ ++ x.foot)) := by
        rw [List.append_assoc, List.append_assoc]
        refine List.Perm.append_left _ ?_
        have q1 : (x.foot ++ (feet R ++ feet τ)).Perm ((feet R ++ feet τ) ++ x.foot) := List.perm_append_comm
        simpa only [List.append_assoc] using q1
      refine p1.trans ?_
      simp only [List.append_assoc]
      exact List.Perm.refl _
  · have e1 : ρ.set i x = ρ := List.set_eq_of_length_le (by omega)
    have e2 : σ.set i (some v) = σ := List.set_eq_of_length_le (by have := h.len; omega)
    rw [e1, e2]
    exact ⟨B, hr.sublist (by rw [← List.append_assoc]; exact List.sublist_append_left _ _)⟩
theorem ds_set (i : Nat) {x : Str} {pos' : Pos} (hN : X.N.Nodup) (he : DE G X e w) (hi : X.N[i]? = some x := by rfl) (hx : Loc X.env.scope x := by first | exact Or.inl rfl | exact Or.inr rfl) (hs : swapsWith e (some (.Name x pos')) pos.line X.env = pure false := by rfl)
    (hf : X.fn x = true ∨ X.env.scope.names.lookup x = some .local := by first | exact .inl rfl | exact .inr rfl) : DSt G X (.Assign [.Name x pos'] e pos) (wSet i w) := by
  refine ⟨fun _ _ _ _ _ q hd h => he.mono (fun x _ k => hd.nx _ k) h q, ps_weak (ps_set hN hi hx he.pe hs hf) fun D σ H h => ?_⟩
  obtain ⟨ρ, τ, hA, hw⟩ := h
  exact ⟨ρ, τ, hA, he.mono (fun x ρ1 k nx l v H1 A1 => k (by rw [List.length_set]; exact l) _ H1 (A1.store i)) (fun _ _ k => k) hw⟩
/-- a, b = x, y with plain names -/
def wPar (i j : Nat) (w : DT (List Sl)) : DS := fun D ρ E => w ρ (fun xs ρ1 => match xs with
  | [x, y] => D.nx ((ρ1.set i (.sh x.dat)).set j (.sh y.dat))
  | _ => False) E
theorem ds_par (i j : Nat) {x y : Str} {a b : Expr} {wr : DT (List Sl)} {px py pt : Pos} {kt k2 : Nat} {pt2 : Pos} (hc : X.calm = true) (hN : X.N.Nodup) (ha : DA G X [a, b] wr) (hi : X.N[i]? = some x := by rfl) (hj : X.N[j]? = some y := by rfl) (hij : i ≠ j := by decide)
    (hx : X.env.scope.names.lookup x = some .local := by rfl) (hy : X.env.scope.names.lookup y = some .local := by rfl)
    (hw : swappedStores [.Tuple [.Name x px, .Name y py] kt pt] (.Tuple [a, b] k2 pt2) X.env = pure (some [x, y]) := by rfl)
    (hs : swapsWithSole [.Tuple [.Name x px, .Name y py] kt pt] (.Tuple [a, b] k2 pt2) pos.line X.env = pure false := by rfl) :
    DSt G X (.Assign [.Tuple [.Name x px, .Name y py] kt pt] (.Tuple [a, b] k2 pt2) pos) (wPar i j wr) := by
  refine ⟨fun _ _ _ _ _ q hd h => ha.mono (fun xs ρ1 k => ?_) h q, ps_weak (ps_par hc hN hi hj hij hx hy ha.pa hw hs) fun D σ H h => ?_⟩
  · split at k
    · exact hd.nx _ k
    · exact k.elim
  · obtain ⟨ρ, τ, hA, hw⟩ := h
    refine ⟨ρ, τ, hA, ha.mono (fun xs ρ1 k nxs ln l vs H1 lv A1 => ?_) (fun _ _ k => k) hw⟩
    obtain ⟨B, h1, h2⟩ := A1.stills lv nxs
    split at k
    · rename_i x y
      match vs, h1 with
      | [v, u], .cons q1 (.cons q2 .nil) =>
        refine ⟨v, u, rfl, k (by rw [List.length_set, List.length_set]; exact l) _ H1 ?_⟩
        have a1 : At G (σ.set i (some v)) (ρ1.set i (.sh x.dat)) τ H1 := (At.addSh A1.len h2 q1).store i
        obtain ⟨B2, r2⟩ := a1.rel
        have e : ∃ B3, Rel G ((σ.set i (some v)).zip (ρ1.set i (.sh x.dat)) ++ τ) H1 B3 ∧ Rp G.K G.so B3 u y.dat := by
          have a2 : At G (σ.set i (some v)) (ρ1.set i (.sh x.dat)) (τ ++ [(some u, .sh y.dat)]) H1 := by
            refine At.store i (x := .sh x.dat) (v := v) (τ := τ ++ [(some u, .sh y.dat)]) ⟨A1.len, B, ?_⟩
            rw [← List.append_assoc, ← List.append_assoc]
            exact (h2.addSh q2).addSh q1
          exact a2.still (fun z => by cases z) |>.imp fun B3 h => ⟨h.2, h.1⟩
        obtain ⟨B3, r3, q3⟩ := e
        exact (At.addSh a1.len r3 q3).store j
    · exact k.elim
end

/-! ### while -/
/-- a loop by a word I over the slots and a measure -/
def wWhile (c : DT Bool) (b : DS) : DS := fun D ρ E => ∃ I : DEnv → Nat → Prop, (∃ n, I ρ n) ∧ ∀ ρ n, I ρ n →
  c ρ (fun t ρ1 => if t = true then b { D with nx := fun ρ' => ∃ m, m < n ∧ I ρ' m, ct := fun ρ' => ∃ m, m < n ∧ I ρ' m, bk := D.nx } ρ1 E else D.nx ρ1) E
section
variable {G : Gx} {X : Cx} {pos : Pos}
theorem ds_while {c : Expr} {body : List Stmt} {wc : DT Bool} {wb : DS} (hp : PassesOwn (model X.prog X.w) X.A X.env X.xe) (hc : DB G X c wc) (hb : DSs G X body wb) : DSt G X (.While c body [] pos) (wWhile wc wb) := by
  refine ⟨fun ρ D D' E E' h hd he => ?_, ps_weak (ps_while hp hc.pt hb.ps) fun D σ H h => ?_⟩
  · obtain ⟨I, h0, h1⟩ := h
    refine ⟨I, h0, fun ρ n hI => hc.mono (fun t ρ1 k => ?_) he (h1 ρ n hI)⟩
    by_cases z : t = true
    · rw [if_pos z] at k ⊢; exact hb.mono k ⟨fun _ k => k, hd.rt, hd.nx, fun _ k => k⟩ he
    · rw [if_neg z] at k ⊢; exact hd.nx _ k
  · obtain ⟨ρ, τ, hA, I, ⟨n0, h0⟩, h1⟩ := h
    refine ⟨fun m σ' H' => ∃ ρ', ρ'.length = ρ.length ∧ At G σ' ρ' τ H' ∧ I ρ' m, ⟨n0, ρ, rfl, hA, h0⟩, ?_⟩
    rintro m σ' H' ⟨ρ', l', A', hI⟩
    refine ⟨ρ', τ, A', hc.mono (fun t ρ1 k l1 H1 A1 => ?_) (fun _ _ k => k) (h1 ρ' m hI)⟩
    by_cases z : t = true
    · rw [if_pos z] at k ⊢
      refine ⟨fun σ2 H2 => ∃ ρ2, ρ2.length = ρ.length ∧ At G σ2 ρ2 τ H2 ∧ ∃ m', m' < m ∧ I ρ2 m', fun σ2 H2 ⟨ρ2, l2, A2, m', hm, hI2⟩ => ⟨m', hm, ρ2, l2, A2, hI2⟩, ρ1, τ, A1, ?_⟩
      exact hb.mono k ⟨fun ρ2 k2 l2 σ2 H2 A2 => ⟨ρ2, l2.trans (l1.trans l'), A2, k2⟩, fun y ρ2 k2 ny l2 v σ2 H2 A2 => k2 ny (l2.trans (l1.trans l')) v σ2 H2 A2, fun ρ2 k2 l2 σ2 H2 A2 => k2 (l2.trans (l1.trans l')) σ2 H2 A2, fun ρ2 k2 l2 σ2 H2 A2 => ⟨ρ2, l2.trans (l1.trans l'), A2, k2⟩⟩ (fun _ _ k => k)
    · rw [if_neg z] at k ⊢
      exact k (l1.trans l') σ' H1 A1
end

/-! ### for -/
/-- J yields the items, over the roots τ -/
def Srv (G : Gx) (J : It) (t : Roots) (items : List D) : Prop := ∀ (i : Nat) (R : Roots) (H B : Hp), Rel G (R ++ t) H B →
  (∀ d, items[i]? = some d → J.go i H ∧ ∀ x H', J.yld i H x H' → ∃ B', Rel G (R ++ t) H' B' ∧ Rp G.K G.so B' x d) ∧ (items.length ≤ i → J.stop i H)
def tDI (G : Gx) (w : DT (List D)) : TI := fun σ H R => ∃ ρ τ, At G σ ρ τ H ∧ w ρ (fun items ρ1 => ρ1.length = ρ.length → ∀ J t H', At G σ ρ1 (τ ++ t) H' → Srv G J t items → R J H') (xw G τ)
structure DI (G : Gx) (X : Cx) (tg iter : Expr) (w : DT (List D)) : Prop where
  mono : Mono w
  pi : ∃ t, PI X tg iter t ∧ ∀ σ H R, tDI G w σ H R → t σ H R
/-- a target -/
abbrev DG := D → DEnv → (DEnv → Prop) → Prop
def MonoG (g : DG) : Prop := ∀ ⦃d : D⦄ ⦃ρ : DEnv⦄ ⦃Q Q' : DEnv → Prop⦄, (∀ ρ, Q ρ → Q' ρ) → g d ρ Q → g d ρ Q'
structure DTg (G : Gx) (X : Cx) (tg : Expr) (g : DG) : Prop where
  mono : MonoG g
  pg : ∃ t, PG X tg t ∧ ∀ (v : V) (d : D) (σ : St) (ρ : DEnv) (τ : Roots) (H B : Hp) (Q : St → Hp → Prop), ρ.length = σ.length → Rel G (σ.zip ρ ++ τ) H B → Rp G.K G.so B v d →
    g d ρ (fun ρ' => ρ'.length = ρ.length → ∀ σ' H', σ'.length = σ.length → At G σ' ρ' τ H' → Q σ' H') → t v σ H Q
def dgName (i : Nat) : DG := fun d ρ Q => Q (ρ.set i (.sh d))
/-- the turns -/
def forD (g : DG) (b : DS) (N : DEn) (E : EC) : List D → DEnv → Prop
  | [], ρ => N.nx ρ
  | d :: ds, ρ => g d ρ fun ρ' => b { N with nx := fun ρ2 => forD g b N E ds ρ2, ct := fun ρ2 => forD g b N E ds ρ2, bk := N.nx } ρ' E
def wFor (w : DT (List D)) (g : DG) (b : DS) : DS := fun D ρ E => w ρ (fun items ρ1 => forD g b D E items ρ1) E
theorem forD_mono {g : DG} {b : DS} (hg : MonoG g) (hb : MonoS b) {N N' : DEn} {E E' : EC} (hd : N.Le N') (he : ∀ e ρ, E e ρ → E' e ρ) : ∀ (ds : List D) (ρ : DEnv), forD g b N E ds ρ → forD g b N' E' ds ρ
  | [], ρ, h => hd.nx _ h
  | d :: ds, ρ, h => hg (fun ρ' k => hb (N := { N with nx := fun ρ2 => forD g b N E ds ρ2, ct := fun ρ2 => forD g b N E ds ρ2, bk := N.nx }) k ⟨fun ρ2 k2 => forD_mono hg hb hd he ds ρ2 k2, hd.rt, hd.nx, fun ρ2 k2 => forD_mono hg hb hd he ds ρ2 k2⟩ he) h
section
variable {G : Gx} {X : Cx} {pos : Pos}
theorem dg_name (i : Nat) {x : Str} (hN : X.N.Nodup) (hi : X.N[i]? = some x := by rfl) (hx : Loc X.env.scope x := by first | exact Or.inl rfl | exact Or.inr rfl) (hf : X.fn x = true ∨ X.env.scope.names.lookup x = some .local := by first | exact .inl rfl | exact .inr rfl) : DTg G X (.Name x pos) (dgName i) := by
  refine ⟨fun _ _ _ _ hq h => hq _ h, _, pg_name hN hi hx hf, fun v d σ ρ τ H B Q l hr hv h => ?_⟩
  exact h (by rw [List.length_set]) _ H (by rw [List.length_set]) ((At.addSh l hr hv).store i)
theorem ds_for {tg iter : Expr} {body : List Stmt} {w : DT (List D)} {g : DG} {b : DS} (hp : PassesOwn (model X.prog X.w) X.A X.env X.xe) (hc : X.calm = true) (hi : DI G X tg iter w) (hg : DTg G X tg g) (hb : DSs G X body b)
    (hs : ∀ x, foldedSetIterable iter X.env x = pure x := by intro _; rfl) : DSt G X (.For tg iter body [] pos) (wFor w g b) := by
  obtain ⟨ti, hti, qi⟩ := hi.pi
  obtain ⟨tg', htg, qg⟩ := hg.pg
  refine ⟨fun ρ D D' E E' h hd he => hi.mono (fun items ρ1 k => forD_mono hg.mono hb.mono hd he items ρ1 k) he h, ps_weak (ps_for hp hc hti htg hb.ps hs) fun D σ H h => qi σ H _ ?_⟩
  obtain ⟨ρ, τ, hA, hw⟩ := h
  refine ⟨ρ, τ, hA, hi.mono (fun items ρ1 k l1 J t H1 A1 hJ => ?_) (fun _ _ k => k) hw⟩
  have pend : endsOf G ρ.length τ D = endsOf G ρ1.length τ D := by rw [l1]
  rw [pend] at k
  refine ⟨fun i m σ' H' => m = items.length - i ∧ i ≤ items.length ∧ ∃ ρ', ρ'.length = ρ1.length ∧ At G σ' ρ' (τ ++ t) H' ∧ forD g b (endsOf G ρ1.length τ D) (xw G τ) (items.drop i) ρ', ⟨items.length, rfl, Nat.zero_le _, ρ1, rfl, A1, k⟩, ?_⟩
  rintro i m σ' H' ⟨rfl, hi', ρ', l', A', k'⟩
  obtain ⟨B', r'⟩ := A'.rel
  rw [← List.append_assoc] at r'
  obtain ⟨go, stop⟩ := hJ i (σ'.zip ρ' ++ τ) H' B' r'
  by_cases hlt : i < items.length
  · right
    obtain ⟨g1, g2⟩ := go items[i] (List.getElem?_eq_getElem hlt)
    refine ⟨g1, fun σ2 H2 => ∃ ρ2, ρ2.length = ρ1.length ∧ At G σ2 ρ2 (τ ++ t) H2 ∧ forD g b (endsOf G ρ1.length τ D) (xw G τ) (items.drop (i + 1)) ρ2,
      fun σ2 H2 ⟨ρ2, l2, A2, k2⟩ => ⟨items.length - (i + 1), by omega, rfl, hlt, ρ2, l2, A2, k2⟩, fun x H2 hy => ?_⟩
    obtain ⟨B2, r2, hx⟩ := g2 x H2 hy
    rw [List.drop_eq_getElem_cons hlt] at k'
    refine qg x items[i] σ' ρ' (τ ++ t) H2 B2 _ A'.len (by rw [← List.append_assoc]; exact r2) hx (hg.mono (fun ρ3 k3 l3 σ3 H3 ls3 A3 => ?_) k')
    refine ⟨ρ3, τ ++ t, A3, hb.mono k3 ⟨fun ρ4 k4 l4 σ4 H4 A4 => ⟨ρ4, l4.trans (l3.trans l'), A4, k4⟩, fun y ρ4 k4 ny l4 v σ4 H4 A4 => ?_, fun ρ4 k4 l4 σ4 H4 A4 => k4 (l4.trans (l3.trans l')) σ4 H4 A4.drop, fun ρ4 k4 l4 σ4 H4 A4 => ⟨ρ4, l4.trans (l3.trans l'), A4, k4⟩⟩ xw_app⟩
    obtain ⟨B4, r4⟩ := A4.rel
    exact k4 ny (l4.trans (l3.trans l')) v σ4 H4 ⟨A4.len, B4, r4.sublist (by rw [List.append_assoc]; exact List.Sublist.append (List.Sublist.refl _) (List.Sublist.append (List.Sublist.refl _) (List.sublist_append_right _ _)))⟩
  · left
    have e : i = items.length := by omega
    subst e
    rw [List.drop_length] at k'
    exact ⟨stop (Nat.le_refl _), k' l' σ' H' A'.drop⟩
/-- over a list, a tuple -/
def wItems (w : DT Sl) : DT (List D) := fun ρ Q E => w ρ (fun x ρ1 => match x.dat with
  | .lst ds => Q ds ρ1
  | .tup ds => Q ds ρ1
  | _ => False) E
theorem wItems_mono {w : DT Sl} (h : Mono w) : Mono (wItems w) := fun _ _ _ _ _ hq he q => h (fun x ρ1 k => by
  split at k
  · exact hq _ _ k
  · exact hq _ _ k
  · exact k.elim) he q
def wItemsL (w : DT Sl) : DT (List D) := fun ρ Q E => w ρ (fun x ρ1 => match x.dat with
  | .lst ds => Q ds ρ1
  | _ => False) E
def wItemsT (w : DT Sl) : DT (List D) := fun ρ Q E => w ρ (fun x ρ1 => match x.dat with
  | .tup ds => Q ds ρ1
  | _ => False) E
theorem srv_list {a : Addr} {ds : List D} : Srv G (Itl G.K a) [(some (.ref a), .sh (.lst ds))] ds := by
  intro i R H B hr
  have q : Rp G.K G.so B (.ref a) (.lst ds) := hr.rep (some (.ref a), .sh (.lst ds)) (by simp)
  cases q with
  | lst hs hv =>
    have hsH : SqL G.K H a _ := .inl (.inl (hr.hi _ _ hs))
    refine ⟨fun d e => ?_, fun hl => ⟨_, hsH, by rw [hv.len]; exact hl⟩⟩
    obtain ⟨v, e1, e2⟩ := hv.get e
    refine ⟨⟨_, v, hsH, e1⟩, fun x H' hy => ?_⟩
    obtain ⟨rfl, hy⟩ := hy
    have e3 := hy _ hsH
    rw [e1] at e3
    cases e3
    exact ⟨B, hr, e2⟩
theorem srv_tup {a : Addr} {ds : List D} : Srv G (Itt G.K a) [(some (.ref a), .sh (.tup ds))] ds := by
  intro i R H B hr
  have q : Rp G.K G.so B (.ref a) (.tup ds) := hr.rep (some (.ref a), .sh (.tup ds)) (by simp)
  cases q with
  | tup hs hv =>
    have hsH := sqT_same hr.hi hs
    refine ⟨fun d e => ?_, fun hl => ⟨_, hsH, by rw [hv.len]; exact hl⟩⟩
    obtain ⟨v, e1, e2⟩ := hv.get e
    refine ⟨⟨_, v, hsH, e1⟩, fun x H' hy => ?_⟩
    obtain ⟨rfl, hy⟩ := hy
    have e3 := hy _ hsH
    rw [e1] at e3
    cases e3
    exact ⟨B, hr, e2⟩
/-- the items of a list of ints told by the library's word -/
def wItemsS (w : DT Sl) : DT (List D) := fun ρ Q E => w ρ (fun x ρ1 => match x.dat with
  | .scr ns => Q (ns.map D.int) ρ1
  | _ => False) E
theorem wItemsS_mono {w : DT Sl} (h : Mono w) : Mono (wItemsS w) := fun _ _ _ _ _ hq he q => h (fun x ρ1 k => by
  split at k
  · exact hq _ _ k
  · exact k.elim) he q
theorem srv_scr {a : Addr} {ns : List Int} : Srv G (Itl G.K a) [(some (.ref a), .sh (.scr ns))] (ns.map D.int) := by
  intro i R H B hr
  have q : Rp G.K G.so B (.ref a) (.scr ns) := hr.rep (some (.ref a), .sh (.scr ns)) (by simp)
  cases q with
  | scr hs =>
    have hsH := hr.hi.seq hs
    refine ⟨fun d e => ?_, fun hl => ⟨_, hsH, by simpa using hl⟩⟩
    rw [List.getElem?_map, Option.map_eq_some_iff] at e
    obtain ⟨k, e1, e2⟩ := e
    subst e2
    have e3 : (ns.map V.int)[i]? = some (V.int k) := by rw [List.getElem?_map, e1]; rfl
    refine ⟨⟨_, _, hsH, e3⟩, fun x H' hy => ?_⟩
    obtain ⟨rfl, hy⟩ := hy
    have e4 := hy _ hsH
    rw [e3] at e4
    cases e4
    exact ⟨B, hr, .int k⟩
theorem wItemsL_mono {w : DT Sl} (h : Mono w) : Mono (wItemsL w) := fun _ _ _ _ _ hq he q => h (fun x ρ1 k => by
  split at k
  · exact hq _ _ k
  · exact k.elim) he q
theorem wItemsT_mono {w : DT Sl} (h : Mono w) : Mono (wItemsT w) := fun _ _ _ _ _ hq he q => h (fun x ρ1 k => by
  split at k
  · exact hq _ _ k
  · exact k.elim) he q
theorem di_list {tg l : Expr} {w : DT Sl} (hK : G.K = X.K) (h : DE G X l w) : DI G X tg l (wItemsL w) := by
  refine ⟨wItemsL_mono h.mono, _, pi_list h.pe, fun σ H R q => ?_⟩
  obtain ⟨ρ, τ, hA, hw⟩ := q
  refine ⟨ρ, τ, hA, h.mono (fun x ρ1 k nx l1 v H1 A1 => ?_) (fun _ _ k => k) hw⟩
  obtain ⟨B, h1, h2⟩ := A1.still nx
  split at k
  · rename_i ds e
    rw [e] at h1
    cases h1 with
    | @lst a vs _ hs hv =>
      refine ⟨a, rfl, ⟨_, .inl (.inl (h2.hi _ _ hs))⟩, ?_⟩
      rw [← hK]
      exact k l1 _ _ H1 (At.addSh A1.len h2 (.lst hs hv)) srv_list
  · exact k.elim
theorem di_scr {tg l : Expr} {w : DT Sl} (hK : G.K = X.K) (h : DE G X l w) : DI G X tg l (wItemsS w) := by
  refine ⟨wItemsS_mono h.mono, _, pi_list h.pe, fun σ H R q => ?_⟩
  obtain ⟨ρ, τ, hA, hw⟩ := q
  refine ⟨ρ, τ, hA, h.mono (fun x ρ1 k nx l1 v H1 A1 => ?_) (fun _ _ k => k) hw⟩
  obtain ⟨B, h1, h2⟩ := A1.still nx
  split at k
  · rename_i ns e
    rw [e] at h1
    cases h1 with
    | @scr a _ hs =>
      refine ⟨a, rfl, ⟨_, hK ▸ h2.hi.seq hs⟩, ?_⟩
      rw [← hK]
      exact k l1 _ _ H1 (At.addSh A1.len h2 (.scr hs)) srv_scr
  · exact k.elim
theorem di_tup {tg l : Expr} {w : DT Sl} (hK : G.K = X.K) (h : DE G X l w) : DI G X tg l (wItemsT w) := by
  refine ⟨wItemsT_mono h.mono, _, pi_tup h.pe, fun σ H R q => ?_⟩
  obtain ⟨ρ, τ, hA, hw⟩ := q
  refine ⟨ρ, τ, hA, h.mono (fun x ρ1 k nx l1 v H1 A1 => ?_) (fun _ _ k => k) hw⟩
  obtain ⟨B, h1, h2⟩ := A1.still nx
  split at k
  · rename_i ds e
    rw [e] at h1
    cases h1 with
    | @tup a vs _ hs hv =>
      refine ⟨a, rfl, ⟨_, hK ▸ sqT_same h2.hi hs⟩, ?_⟩
      rw [← hK]
      exact k l1 _ _ H1 (At.addSh A1.len h2 (.tup hs hv)) srv_tup
  · exact k.elim
/-- lo, lo + 1, .. -/
def rangeD (lo : Int) (n : Nat) : List D := (List.range n).map fun (i : Nat) => D.int (lo + (i : Int))
theorem rangeD_get {lo : Int} {n i : Nat} : (rangeD lo n)[i]? = if i < n then some (D.int (lo + (i : Int))) else none := by
  unfold rangeD
  rw [List.getElem?_map]
  by_cases hi : i < n
  · rw [if_pos hi, List.getElem?_eq_getElem (by simpa using hi)]
    simp
  · rw [if_neg hi, List.getElem?_eq_none (by simpa using hi)]
    rfl
theorem rangeD_len {lo : Int} {n : Nat} : (rangeD lo n).length = n := by unfold rangeD; simp
theorem srv_range {lo : Int} {n : Nat} : Srv G (Itr lo n) [] (rangeD lo n) := by
  intro i R H B hr
  refine ⟨fun d e => ?_, fun hl => by rw [rangeD_len] at hl; exact hl⟩
  rw [rangeD_get] at e
  by_cases hi : i < n
  · rw [if_pos hi] at e
    have e2 : D.int (lo + i) = d := by simpa using e
    subst e2
    exact ⟨hi, fun x H' hy => by
      obtain ⟨rfl, rfl⟩ := hy
      exact ⟨B, hr, .int _⟩⟩
  · rw [if_neg hi] at e; cases e
def wRng1 (w : DT (List Sl)) : DT (List D) := fun ρ Q E => w ρ (fun xs ρ1 => match datas xs with
  | [.int j] => (-(2 ^ 62) ≤ j ∧ j < 2 ^ 62) ∧ Q (rangeD 0 j.toNat) ρ1
  | _ => False) E
def wRng2 (w : DT (List Sl)) : DT (List D) := fun ρ Q E => w ρ (fun xs ρ1 => match datas xs with
  | [.int i, .int j] => (-(2 ^ 62) ≤ i ∧ i < 2 ^ 62 ∧ -(2 ^ 62) ≤ j ∧ j < 2 ^ 62) ∧ Q (rangeD i (j - i).toNat) ρ1
  | _ => False) E
theorem wRng1_mono {w : DT (List Sl)} (h : Mono w) : Mono (wRng1 w) := fun _ _ _ _ _ hq he q => h (fun x ρ1 k => by
  split at k
  · exact ⟨k.1, hq _ _ k.2⟩
  · exact k.elim) he q
theorem wRng2_mono {w : DT (List Sl)} (h : Mono w) : Mono (wRng2 w) := fun _ _ _ _ _ hq he q => h (fun x ρ1 k => by
  split at k
  · exact ⟨k.1, hq _ _ k.2⟩
  · exact k.elim) he q
theorem di_range1 {tg a : Expr} {w : DT (List Sl)} {p : Pos} (hm : X.mg "range" = none) (ha : DA G X [a] w) (hg : Gl X "range" := by rfl) (hs : starEach [a] X.env = [(false, eval a X.env)] := by rfl) : DI G X tg (.Call (.Name "range" p) [a] [] pos) (wRng1 w) := by
  refine ⟨wRng1_mono ha.mono, _, pi_range1 hg hm ha.pa hs, fun σ H R q => ?_⟩
  obtain ⟨ρ, τ, hA, hw⟩ := q
  refine ⟨ρ, τ, hA, ha.mono (fun xs ρ1 k nxs ln l1 vs H1 lv A1 => ?_) (fun _ _ k => k) hw⟩
  obtain ⟨B, h1, h2⟩ := A1.stills lv nxs
  split at k
  · rename_i j e
    rw [e] at h1
    cases h1 with
    | cons q1 q2 =>
      cases q1; cases q2
      exact ⟨j, rfl, k.1.1, k.1.2, k.2 l1 _ [] H1 (by rw [List.append_nil]; exact .mk' A1.len h2) srv_range⟩
  · exact k.elim
theorem di_range2 {tg a b : Expr} {w : DT (List Sl)} {p : Pos} (hm : X.mg "range" = none) (ha : DA G X [a, b] w) (hg : Gl X "range" := by rfl) (hs : starEach [a, b] X.env = [(false, eval a X.env), (false, eval b X.env)] := by rfl) (hs2 : starEach [b] X.env = [(false, eval b X.env)] := by rfl) :
    DI G X tg (.Call (.Name "range" p) [a, b] [] pos) (wRng2 w) := by
  refine ⟨wRng2_mono ha.mono, _, pi_range2 hg hm ha.pa hs hs2, fun σ H R q => ?_⟩
  obtain ⟨ρ, τ, hA, hw⟩ := q
  refine ⟨ρ, τ, hA, ha.mono (fun xs ρ1 k nxs ln l1 vs H1 lv A1 => ?_) (fun _ _ k => k) hw⟩
  obtain ⟨B, h1, h2⟩ := A1.stills lv nxs
  split at k
  · rename_i i j e
    rw [e] at h1
    cases h1 with
    | cons q1 q2 =>
      cases q1
      cases q2 with
      | cons q3 q4 =>
        cases q3; cases q4
        exact ⟨i, j, rfl, k.1, k.2 l1 _ [] H1 (by rw [List.append_nil]; exact .mk' A1.len h2) srv_range⟩
  · exact k.elim
end
end DL
set_option Elab.async false
set_option maxRecDepth 100000
set_option maxHeartbeats 4000000
set_option linter.unusedVariables false
/-! data-level layer, part e: a def's body keeps its promise by data -/
namespace DL
open PySem PySem.Spec PyProof.Rows L2

/-- what may be told of a slot instead -/
inductive Cv : Sl → Sl → Prop
  | refl (x : Sl) : Cv x x
  | sh (x : Sl) : x ≠ .un → Cv x (.sh x.dat)
  | ow (p : Addr) (ds : List D) : NoLs ds = true → Cv (.ow p ds) (.dp [p] (.lst ds))
  | leaf (d : D) : NoL d = true → Cv (.sh d) (.dp [] d)
theorem Cv.ne {x y : Sl} (h : Cv x y) (hx : x ≠ .un) : y ≠ .un := by
  cases h with
  | refl => exact hx
  | sh _ => intro z; cases z
  | ow => intro z; cases z
  | leaf => intro z; cases z
theorem Rps.dprs {K : PySem.W.Frag} {so : Option Addr} {B H : Hp} : ∀ {vs : List V} {ds : List D}, Rps K so B vs ds → NoLs ds = true → Dprs K so B H vs ds []
  | _, _, .nil, _ => .nil
  | _, _, .cons (d := d) (ds := ds) h r, n => by
    have n2 : (NoL d && NoLs ds) = true := n
    rw [Bool.and_eq_true] at n2
    exact .cons (F := []) (G := []) (.leaf h n2.1) (Rps.dprs r n2.2)
theorem Cv.rel {x y : Sl} (h : Cv x y) {G : Gx} {R : Roots} {v : V} {H : Hp} (r : RelE G (R ++ [(some v, x)]) H) : RelE G (R ++ [(some v, y)]) H := by
  obtain ⟨B, hr⟩ := r
  cases h with
  | refl => exact ⟨B, hr⟩
  | sh _ n => exact ⟨_, hr.freeze (R₁ := R) (R₂ := []) n⟩
  | ow p ds n =>
    refine ⟨B, hr.lo, hr.hi, hr.fr, hr.nw, fun q hq => ?_, ?_, fun q hq => ?_, hr.st⟩
    · rcases List.mem_append.mp hq with hq | hq
      · exact hr.rep q (List.mem_append_left _ hq)
      · have e : q = (some v, .dp [p] (.lst ds)) := by simpa using hq
        subst e
        obtain ⟨e, vs, h1, h2⟩ : v = .ref p ∧ ∃ vs, H p = some (.lst vs) ∧ Rps G.K G.so B vs ds := hr.rep (some v, .ow p ds) (by simp)
        subst e
        exact .lst h1 (h2.dprs n)
    · have := hr.nd
      rw [feet_append, feet_one] at this ⊢
      exact this
    · have := hr.ap q
      rw [feet_append, feet_one] at this hq
      exact this hq
  | leaf d n =>
    refine ⟨B, hr.lo, hr.hi, hr.fr, hr.nw, fun q hq => ?_, ?_, fun q hq => ?_, hr.st⟩
    · rcases List.mem_append.mp hq with hq | hq
      · exact hr.rep q (List.mem_append_left _ hq)
      · have e : q = (some v, .dp [] d) := by simpa using hq
        subst e
        exact .leaf (show Rp G.K G.so B v d from hr.rep (some v, .sh d) (by simp)) n
    · have := hr.nd
      rw [feet_append, feet_one] at this ⊢
      exact this
    · have := hr.ap q
      rw [feet_append, feet_one] at this hq
      exact this hq
theorem Cv.at {x y : Sl} (h : Cv x y) {G : Gx} {σ : St} {ρ : DEnv} {τ : Roots} {v : V} {H : Hp} (r : At G σ ρ (τ ++ [(some v, x)]) H) : At G σ ρ (τ ++ [(some v, y)]) H := by
  have q := r.rel
  rw [← List.append_assoc] at q
  have z := h.rel q
  rw [List.append_assoc] at z
  exact ⟨r.len, z⟩

/-- the slots at a def's entry -/
def entry (n : Nat) (ds : List D) : DEnv := ds.map Sl.sh ++ List.replicate (n - ds.length) .un
/-- what a body is to reach: the result, perhaps told in another way -/
def bodyEnds (Q : Sl → Prop) : DEn where
  nx := fun _ => ∃ y, Cv (.sh .non) y ∧ Q y
  rt := fun x _ => ∃ y, Cv x y ∧ Q y
theorem start_entry {N : List Str} {vs : List V} {ds : List D} (h : vs.length = ds.length) : (entry N.length ds).length = (start N vs).length := by
  unfold entry L2.start
  simp only [List.length_append, List.length_map, List.length_replicate, h]
section
variable {P : Program} {w : World} {K : PySem.W.Frag} {mg : Str → Option Value} {base : Heap} {x qual : Str} {params : Arguments} {body : List Stmt} {scope : Scope} {dvs : List V} {kws : List (Str × V)} {f : Addr} {fd : FuncData}
/-- the context of a def's body -/
abbrev cxD (P : Program) (w : World) (K : PySem.W.Frag) (mg : Str → Option Value) (base : Heap) (N : List Str) (qual : Str) (scope : Scope) (f : Addr) (cd : Value) (A : Around) (outer : List Env) (s : Shared) (H : Hp) (E : XK) : Cx :=
  cxOf (L2N.CX P w) P w K mg base N qual scope f cd A outer s H E
/-- a body's reading at its entry -/
theorem entry_reads {N : List Str} {vs : List V} {ds : List D} {H B : Hp} {Q : VK} {E : XK} {so : Option Addr} {X : Cx} {body : List Stmt} {wb : DS} {Q' : Sl → Prop} {E' : Er → Prop} (e : Same B H) (st : ∀ s, so = some s → B s = none ∧ StoreAt K B H s) (hv : Rps K so B vs ds) (d : DSs ⟨K, so, B, H, fun _ => E⟩ X body wb)
    (hw : wb (bodyEnds Q') (entry N.length ds) (fun e _ => E' e)) (hQ : ∀ x, Q' x → x ≠ .un → ∀ v H', RelE ⟨K, so, B, H, fun _ => E⟩ [(some v, x)] H' → Q v H')
    (hE : ∀ e, E' e → ∀ B' cls d H', Rel ⟨K, so, B, H, fun _ => E⟩ [] H' B' → RepX K so B' cls d e → E cls d H') :
    tS ⟨K, so, B, H, fun _ => E⟩ wb { nx := fun _ H' => Q .non H', rt := Q } (start N vs) H := by
  refine ⟨entry N.length ds, [], ⟨start_entry hv.len, B, ?_⟩, d.mono hw ⟨fun ρ' ⟨y, c, q⟩ l σ' H' A' => ?_, fun z ρ' ⟨y, c, q⟩ nz l v σ' H' A' => ?_, fun _ z => z.elim, fun _ z => z.elim⟩ (fun er ρ' q σ' cls d' H' B' l r hx => ?_)⟩
  · rw [List.append_nil]
    have key : ∀ (vs : List V) (ds : List D) (n m : Nat), vs.length = ds.length → ((vs.map some ++ List.replicate n none).zip (ds.map Sl.sh ++ List.replicate m Sl.un)) = (vs.map some).zip (ds.map Sl.sh) ++ (List.replicate n none).zip (List.replicate m Sl.un) := by
      intro vs ds n m h
      exact List.zip_append (by simpa using h)
    unfold L2.start entry
    rw [key vs ds _ _ hv.len]
    have f1 : ∀ {vs : List V} {ds : List D}, feet ((vs.map some).zip (ds.map Sl.sh)) = [] := by
      intro vs
      induction vs with
      | nil => intro ds; rfl
      | cons v vs ih =>
        intro ds
        cases ds with
        | nil => rfl
        | cons d ds => exact (show feet ((vs.map some).zip (ds.map Sl.sh)) = [] from ih)
    have f2 : ∀ n m, feet ((List.replicate n (none : Option V)).zip (List.replicate m Sl.un)) = [] := by
      intro n
      induction n with
      | zero => intro m; rfl
      | succ n ih =>
        intro m
        cases m with
        | zero => rfl
        | succ m => exact (show feet ((List.replicate n (none : Option V)).zip (List.replicate m Sl.un)) = [] from ih m)
    refine Rel.entry e (fun r hr => ?_) (by rw [feet_append, f1, f2]; rfl) st
    rcases List.mem_append.mp hr with hr | hr
    · have g1 : ∀ {vs : List V} {ds : List D}, Rps K so B vs ds → ∀ r ∈ (vs.map some).zip (ds.map Sl.sh), RepS K so B H r.1 r.2 := by
        intro vs
        induction vs with
        | nil => intro ds h r hr; cases hr
        | cons v vs ih =>
          intro ds h r hr
          cases h with
          | cons h1 h2 =>
            rcases List.mem_cons.mp hr with rfl | hr
            · exact h1
            · exact ih h2 r hr
      exact g1 hv r hr
    · have g2 : ∀ n m, ∀ r ∈ (List.replicate n (none : Option V)).zip (List.replicate m Sl.un), RepS K so B H r.1 r.2 := by
        intro n
        induction n with
        | zero => intro m r hr; cases hr
        | succ n ih =>
          intro m r hr
          cases m with
          | zero => cases hr
          | succ m =>
            rcases List.mem_cons.mp hr with rfl | hr
            · trivial
            · exact ih m r hr
      exact g2 _ _ r hr
  · obtain ⟨B', r'⟩ := A'.rel
    have r2 : RelE ⟨K, so, B, H, fun _ => E⟩ ([] ++ [(some .non, .sh .non)]) H' := ⟨B', (r'.addSh .non).sublist (List.sublist_append_right _ _)⟩
    exact hQ _ q (c.ne (fun z => by cases z)) .non H' (c.rel r2)
  · obtain ⟨B', r'⟩ := A'.rel
    have r : RelE ⟨K, so, B, H, fun _ => E⟩ ([] ++ [(some v, z)]) H' := ⟨B', r'.sublist (List.sublist_append_right _ _)⟩
    exact hQ _ q (c.ne nz) v H' (c.rel r)
  · exact hE _ q B' cls d' H' (r.sublist (List.nil_sublist _)) hx
theorem fn_body {N ps : List Str} {k : Nat} {W : DW1} (F : FunD K x qual params body scope dvs kws f fd) (S : FnScope N ps scope) (hlen : ∀ ds Q E, W ds Q E → ds.length = ps.length)
    (hb : ∀ (cdv : Value) (A : Around) (outer : List Env) (s : Shared) (H : Hp) (E : XK) (so : Option Addr) (B : Hp), Room k (A.deeper (envOfC qual scope s.heap.objs.size f cdv)) →
      L2N.Takes (cxD P w K mg base N qual scope f cdv A outer s H E) (fun cls d _ H => E cls d H) →
      ∃ wb, DSs ⟨K, so, B, H, fun _ => E⟩ (cxD P w K mg base N qual scope f cdv A outer s H E) body wb ∧ ∀ ds Q E', W ds Q E' → wb (bodyEnds Q) (entry N.length ds) (fun e _ => E' e)) :
    FnOk P w K mg base (L2N.CX P w) (k + 1) f fd ps (spD K ps.length W) := by
  refine F.ok S (fun vs H Q E h => ?_) (fun cdv A outer s H vs Q E hr h => ?_)
  · obtain ⟨so, B, ds, ln, _, _, hv, _⟩ := h
    exact hv.len.trans ln
  · obtain ⟨so, B, ds, ln, e, st, hv, hW⟩ := h
    obtain ⟨wb, d, hw⟩ := hb cdv A outer s H E so B hr (L2N.takes_of rfl rfl rfl rfl)
    exact ⟨_, d.ps, entry_reads e st hv d (hw ds _ _ hW) (fun x h => h) (fun e h => h)⟩
theorem fd_ok {N ps : List Str} {k : Nat} {W : DW1} (hW : MonoW W) (F : FunD K x qual params body scope [] [] f fd) (S : FnScope N ps scope) (hm : mg x = some (.ref f)) (hlen : ∀ ds Q E, W ds Q E → ds.length = ps.length)
    (hbd : ∀ (kV doc pm : Value) (an : Option Addr) (cdv ct : Value) (us : List Value), us.length = ps.length → bindArgs (PySem.W.fnOf x qual params body scope .none kV doc pm an cdv ct) ⟨us, []⟩ = pure (ps.zip us))
    (hb : ∀ (cdv : Value) (A : Around) (outer : List Env) (s : Shared) (H : Hp) (E : XK) (so : Option Addr) (B : Hp), Room k (A.deeper (envOfC qual scope s.heap.objs.size f cdv)) →
      L2N.Takes (cxD P w K mg base N qual scope f cdv A outer s H E) (fun cls d _ H => E cls d H) →
      ∃ wb, DSs ⟨K, so, B, H, fun _ => E⟩ (cxD P w K mg base N qual scope f cdv A outer s H E) body wb ∧ ∀ ds Q E', W ds Q E' → wb (bodyEnds Q) (entry N.length ds) (fun e _ => E' e)) :
    FD P w K mg base (k + 1) x ps.length W := ⟨hW, f, fd, ps, rfl, hm, F.kp, fn_body F S hlen hb, F.bindsN hbd⟩
end
end DL
set_option Elab.async false
set_option maxRecDepth 100000
set_option maxHeartbeats 4000000
set_option linter.unusedVariables false
/-! data-level layer, part f: built-in calls, isinstance, subscripts, list methods -/
namespace DL
open PySem PySem.Spec PyProof.Rows L2

abbrev AO := List D → (Sl → Prop) → Prop
def OpA (G : Gx) (r : List V → Hp → VK → Prop) (ro : AO) : Prop := ∀ (σ : St) (ρ : DEnv) (τ : Roots) (vs : List V) (ds : List D) (H B : Hp) (Q : VK), ρ.length = σ.length → Rel G (σ.zip ρ ++ τ) H B → Rps G.K G.so B vs ds →
  ro ds (fun z => z ≠ .un → ∀ v H', At G σ ρ (τ ++ [(some v, z)]) H' → Q v H') → r vs H Q
def MonoA (ro : AO) : Prop := ∀ ⦃ds : List D⦄ ⦃Q Q' : Sl → Prop⦄, (∀ z, Q z → Q' z) → ro ds Q → ro ds Q'
def wFun (ro : AO) (wa : DT (List Sl)) : DT Sl := fun ρ Q E => wa ρ (fun xs ρ1 => ro (datas xs) fun z => Q z ρ1) E
theorem wFun_mono {ro : AO} {wa : DT (List Sl)} (hm : MonoA ro) (ha : Mono wa) : Mono (wFun ro wa) := fun _ _ _ _ _ hq he q => ha (fun xs ρ1 k => hm (fun z => hq _ _) k) he q
/-- a function of data, where P holds -/
def roF (P : List D → Prop) (f : List D → D) : AO := fun ds Q => P ds ∧ Q (.sh (f ds))
/-- .. whose result is a list of one's own -/
def roL (P : List D → Prop) (f : List D → List D) : AO := fun ds Q => P ds ∧ ∀ p, Q (.ow p (f ds))
theorem roF_mono {P : List D → Prop} {f : List D → D} : MonoA (roF P f) := fun _ _ _ hq h => ⟨h.1, hq _ h.2⟩
theorem roL_mono {P : List D → Prop} {f : List D → List D} : MonoA (roL P f) := fun _ _ _ hq h => ⟨h.1, fun p => hq _ (h.2 p)⟩
section
variable {G : Gx} {X : Cx} {e a b : Expr} {es : List Expr} {wr : DT (List Sl)} {wa wb : DT Sl} {p pos : Pos} {x id T : String}
theorem opa_F {r : List V → Hp → VK → Prop} {P : List D → Prop} {f : List D → D} (h : ∀ (so : Option Addr) (vs : List V) (ds : List D) (H B : Hp) (Q : VK), Same B H → Rps G.K so B vs ds → P ds → (∀ v, Rp G.K so B v (f ds) → Q v H) → r vs H Q) : OpA G r (roF P f) := by
  intro σ ρ τ vs ds H B Q l hr hv q
  exact h G.so vs ds H B Q hr.hi hv q.1 fun v hv => q.2 (fun z => by cases z) v H (At.addSh l hr hv)
theorem opa_L {r : List V → Hp → VK → Prop} {P : List D → Prop} {f : List D → List D} (h : ∀ (so : Option Addr) (vs : List V) (ds : List D) (H B : Hp) (Q : VK), Same B H → Rps G.K so B vs ds → P ds → (∀ p ws, H p = none → Rps G.K so B ws (f ds) → Q (.ref p) (upd H p (.lst ws))) → r vs H Q) : OpA G r (roL P f) := by
  intro σ ρ τ vs ds H B Q l hr hv q
  exact h G.so vs ds H B Q hr.hi hv q.1 fun p ws hp hw => q.2 p (fun z => by cases z) _ _ (At.addOw l hr hp hw)
theorem fun_ends {r : List V → Hp → VK → Prop} {ro : AO} {σ : St} {H : Hp} {Q : VK} {wr : DT (List Sl)} {n : Nat} (hd : OpA G r ro) (hm : MonoA ro) (ha : Mono wr) (h : tD G (wFun ro wr) σ H Q) : tDA G n wr σ H fun vs H1 => r vs H1 Q := by
  obtain ⟨ρ, τ, hA, hw⟩ := h
  refine ⟨ρ, τ, hA, ha (fun xs ρ1 k nxs ln l vs H1 lv A1 => ?_) (fun _ _ e => e) hw⟩
  obtain ⟨B, h1, h2⟩ := A1.stills lv nxs
  exact hd σ ρ1 τ vs _ H1 B Q A1.len h2 h1 (hm (fun z k nz v H' A' => k nz l v H' A') k)
theorem de_callB {x : Str} {r : List V → Hp → VK → Prop} {ro : AO} (hc : CallR X (.builtin id) r) (hd : OpA G r ro) (hm : MonoA ro) (hg : Gl X x) (hmg : X.mg x = none) (hv : bootBuiltins x = some (.builtin id)) (ha : DA G X (e :: es) wr) (hn : x ≠ "__name__" := by decide) (hdb : (x == ("__debug__" : Str)) = false := by decide)
    (he : starEach (e :: es) X.env = (false, eval e X.env) :: starEach es X.env := by rfl) (hpl : (backTo pos (starEach es X.env)).any (·.1) = false := by rfl) : DE G X (.Call (.Name x p) (e :: es) [] pos) (wFun ro wr) :=
  ⟨wFun_mono hm ha.mono, pe_weak (pe_callB hc hg hmg hv ha.pa hn hdb he hpl) fun σ H Q h => fun_ends hd hm ha.mono h⟩
theorem de_callT {x : Str} {r : List V → Hp → VK → Prop} {ro : AO} (hc : CallR X (.type T) r) (hd : OpA G r ro) (hm : MonoA ro) (hg : Gl X x) (hmg : X.mg x = none) (hv : bootBuiltins x = some (.type T)) (ha : DA G X (e :: es) wr) (hn : x ≠ "__name__" := by decide) (hdb : (x == ("__debug__" : Str)) = false := by decide)
    (he : starEach (e :: es) X.env = (false, eval e X.env) :: starEach es X.env := by rfl) (hpl : (backTo pos (starEach es X.env)).any (·.1) = false := by rfl) : DE G X (.Call (.Name x p) (e :: es) [] pos) (wFun ro wr) :=
  ⟨wFun_mono hm ha.mono, pe_weak (pe_callTy hc hg hmg hv ha.pa hn hdb he hpl) fun σ H Q h => fun_ends hd hm ha.mono h⟩

/-! ### abs, min, max, int, len, list, tuple -/
def pInt1 : List D → Prop | [.int _] => True | _ => False
def pInt2 : List D → Prop | [.int _, .int _] => True | _ => False
def fAbs : List D → D | [.int i] => .int (i.natAbs : Int) | _ => .non
def fMin : List D → D | [.int i, .int j] => .int (min i j) | _ => .non
def fMax : List D → D | [.int i, .int j] => .int (max i j) | _ => .non
def pIntOf : List D → Prop | [.int _] => True | [.bl _] => True | _ => False
def fIntOf : List D → D | [.int i] => .int i | [.bl b] => .int (if b then 1 else 0) | _ => .non
def pLen : List D → Prop | [.lst _] => True | [.tup _] => True | [.scr _] => True | [.str z] => z.length ≤ sizeLine | [.dic _ _] => True | _ => False
def fLen : List D → D | [.lst ds] => .int ds.length | [.tup ds] => .int ds.length | [.scr ns] => .int ns.length | [.str z] => .int z.length | [.dic ks _] => .int ks.length | _ => .non
def pSeq : List D → Prop | [.lst _] => True | [.tup _] => True | [.scr _] => True | _ => False
def fSeq : List D → List D | [.lst ds] => ds | [.tup ds] => ds | [.scr ns] => ns.map D.int | _ => []
theorem opa_abs : OpA G (fun xs H Q => ∃ i, xs = [.int i] ∧ Q (.int (if i < 0 then -i else i)) H) (roF pInt1 fAbs) := opa_F fun so vs ds H B Q e hv hp k => by
  unfold pInt1 at hp
  split at hp
  · rename_i i
    match vs, hv with
    | [_], .cons (.int _) .nil =>
      refine ⟨i, rfl, ?_⟩
      have z : (if i < 0 then -i else i) = (i.natAbs : Int) := by split <;> omega
      rw [z]
      exact k _ (.int _)
  · exact hp.elim
theorem opa_min : OpA G (fun xs H Q => ∃ i j, xs = [.int i, .int j] ∧ Q (.int (if j < i then j else i)) H) (roF pInt2 fMin) := opa_F fun so vs ds H B Q e hv hp k => by
  unfold pInt2 at hp
  split at hp
  · rename_i i j
    match vs, hv with
    | [_, _], .cons (.int _) (.cons (.int _) .nil) =>
      refine ⟨i, j, rfl, ?_⟩
      have z : (if j < i then j else i) = min i j := by split <;> omega
      rw [z]
      exact k _ (.int _)
  · exact hp.elim
theorem opa_max : OpA G (fun xs H Q => ∃ i j, xs = [.int i, .int j] ∧ Q (.int (if j > i then j else i)) H) (roF pInt2 fMax) := opa_F fun so vs ds H B Q e hv hp k => by
  unfold pInt2 at hp
  split at hp
  · rename_i i j
    match vs, hv with
    | [_, _], .cons (.int _) (.cons (.int _) .nil) =>
      refine ⟨i, j, rfl, ?_⟩
      have z : (if j > i then j else i) = max i j := by split <;> omega
      rw [z]
      exact k _ (.int _)
  · exact hp.elim
theorem opa_int : OpA G (fun xs H Q => (∃ i, xs = [.int i] ∧ Q (.int i) H) ∨ ∃ k, xs = [.bl k] ∧ Q (.int (if k then 1 else 0)) H) (roF pIntOf fIntOf) := opa_F fun so vs ds H B Q e hv hp k => by
  unfold pIntOf at hp
  split at hp
  · match vs, hv with
    | [_], .cons (.int i) .nil => exact .inl ⟨i, rfl, k _ (.int _)⟩
  · match vs, hv with
    | [_], .cons (.bl b) .nil => exact .inr ⟨b, rfl, k _ (.int _)⟩
  · exact hp.elim
theorem call_lenD {X : Cx} : CallR X (.builtin "len") (fun xs H Q => ∃ p kvs, xs = [.ref p] ∧ H p = some (.dK kvs) ∧ Q (.int kvs.length) H) := by
  intro pins s σ H xs us Q I r h
  obtain ⟨p, kvs, rfl, hp, q⟩ := h
  obtain ⟨u, rfl, rx⟩ := vals1 r
  cases rx
  exact d_len I (.inl hp) fun t s' I' => ⟨.int kvs.length, H, I', ⟨t, rfl⟩, q⟩
theorem opa_len : OpA G (fun xs H Q => (∃ x n, xs = [x] ∧ LenV G.K x H n ∧ Q (.int n) H) ∨ ∃ p kvs, xs = [.ref p] ∧ H p = some (.dK kvs) ∧ Q (.int kvs.length) H) (roF pLen fLen) := opa_F fun so vs ds H B Q e hv hp k => by
  unfold pLen at hp
  split at hp
  · match vs, hv with
    | [_], .cons (.lst hs hr) .nil => exact .inl ⟨_, _, rfl, .inl ⟨_, .inl (.inl (e _ _ hs)), rfl⟩, k _ (by rw [hr.len]; exact .int _)⟩
  · match vs, hv with
    | [_], .cons (.tup hs hr) .nil => exact .inl ⟨_, _, rfl, .inr ⟨_, sqT_same e hs, rfl⟩, k _ (by rw [hr.len]; exact .int _)⟩
  · match vs, hv with
    | [_], .cons (.scr (ns := ns) hs) .nil => exact .inl ⟨_, (ns.map V.int).length, rfl, .inl ⟨_, e.seq hs, rfl⟩, k _ (by rw [List.length_map]; exact .int _)⟩
  · match vs, hv with
    | [_], .cons (.str z) .nil => exact .inl ⟨_, _, rfl, ⟨hp, rfl⟩, k _ (.int _)⟩
  · match vs, hv with
    | [_], .cons (.dic (ks := ks) (vs := ws) hs hl hr) .nil => exact .inr ⟨_, _, rfl, e _ _ hs, k _ (by rw [List.length_zip, ← hl, Nat.min_self]; exact .int _)⟩
  · exact hp.elim
theorem opa_list : OpA G (fun xs H Q => ∃ p ys, xs = [.ref p] ∧ (SqL G.K H p ys ∨ SqT G.K H p ys) ∧ ∀ l, H l = none → Q (.ref l) (upd H l (.lst ys))) (roL pSeq fSeq) := opa_L fun so vs ds H B Q e hv hp k => by
  unfold pSeq at hp
  split at hp
  · match vs, hv with
    | [_], .cons (.lst hs hr) .nil => exact ⟨_, _, rfl, .inl (.inl (.inl (e _ _ hs))), fun l hl => k _ _ hl hr⟩
  · match vs, hv with
    | [_], .cons (.tup hs hr) .nil => exact ⟨_, _, rfl, .inr (sqT_same e hs), fun l hl => k _ _ hl hr⟩
  · match vs, hv with
    | [_], .cons (.scr hs) .nil => exact ⟨_, _, rfl, .inl (e.seq hs), fun l hl => k _ _ hl (.ints _ rfl)⟩
  · exact hp.elim
/-- tuple(x) -/
def roTup : AO := fun ds Q => match ds with
  | [.lst es] => Q (.sh (.tup es))
  | [.tup es] => Q (.sh (.tup es))
  | _ => False
theorem roTup_mono : MonoA roTup := fun ds _ _ hq h => by
  unfold roTup at h ⊢
  split at h
  · exact hq _ h
  · exact hq _ h
  · exact h
theorem opa_tup : OpA G (fun xs H Q => ∃ p ys, xs = [.ref p] ∧ ((SqL G.K H p ys ∧ ∀ l, H l = none → Q (.ref l) (upd H l (.tup ys))) ∨ (SqT G.K H p ys ∧ Q (.ref p) H))) roTup := by
  intro σ ρ τ vs ds H B Q l hr hv q
  unfold roTup at q
  split at q
  · match vs, hv with
    | [_], .cons (.lst hs hv) .nil => exact ⟨_, _, rfl, .inl ⟨.inl (.inl (hr.hi _ _ hs)), fun p hp => q (fun z => by cases z) _ _ (At.addNew l hr hp fun B' e1 e2 => .tup (.inl (.inl e2)) (hv.mono e1))⟩⟩
  · match vs, hv with
    | [_], .cons (.tup hs hv) .nil => exact ⟨_, _, rfl, .inr ⟨sqT_same hr.hi hs, q (fun z => by cases z) _ _ (At.addSh l hr (.tup hs hv))⟩⟩
  · exact q.elim
abbrev wAbs := wFun (roF pInt1 fAbs)
abbrev wMin := wFun (roF pInt2 fMin)
abbrev wMax := wFun (roF pInt2 fMax)
abbrev wInt := wFun (roF pIntOf fIntOf)
abbrev wLen := wFun (roF pLen fLen)
abbrev wList := wFun (roL pSeq fSeq)
abbrev wTuple := wFun roTup
theorem de_abs (hm : X.mg "abs" = none) (ha : DA G X [a] wr) (hg : Gl X "abs" := by rfl) (he : starEach [a] X.env = (false, eval a X.env) :: starEach [] X.env := by rfl) : DE G X (.Call (.Name "abs" p) [a] [] pos) (wAbs wr) := de_callB call_abs opa_abs roF_mono hg hm (by decide +kernel) ha (he := he)
theorem de_min (hc : X.calm = true) (hm : X.mg "min" = none) (ha : DA G X [a, b] wr) (hg : Gl X "min" := by rfl) (he : starEach [a, b] X.env = (false, eval a X.env) :: starEach [b] X.env := by rfl) (hpl : (backTo pos (starEach [b] X.env)).any (·.1) = false := by rfl) : DE G X (.Call (.Name "min" p) [a, b] [] pos) (wMin wr) := de_callB (call_min2 hc) opa_min roF_mono hg hm (by decide +kernel) ha (he := he) (hpl := hpl)
theorem de_max (hc : X.calm = true) (hm : X.mg "max" = none) (ha : DA G X [a, b] wr) (hg : Gl X "max" := by rfl) (he : starEach [a, b] X.env = (false, eval a X.env) :: starEach [b] X.env := by rfl) (hpl : (backTo pos (starEach [b] X.env)).any (·.1) = false := by rfl) : DE G X (.Call (.Name "max" p) [a, b] [] pos) (wMax wr) := de_callB (call_max2 hc) opa_max roF_mono hg hm (by decide +kernel) ha (he := he) (hpl := hpl)
theorem de_intOf (hm : X.mg "int" = none) (ha : DA G X [a] wr) (hg : Gl X "int" := by rfl) (he : starEach [a] X.env = (false, eval a X.env) :: starEach [] X.env := by rfl) : DE G X (.Call (.Name "int" p) [a] [] pos) (wInt wr) := de_callT call_int1 opa_int roF_mono hg hm (by decide +kernel) ha (he := he)
theorem de_len (hK : G.K = X.K) (hm : X.mg "len" = none) (ha : DA G X [a] wr) (hg : Gl X "len" := by rfl) (he : starEach [a] X.env = (false, eval a X.env) :: starEach [] X.env := by rfl) : DE G X (.Call (.Name "len" p) [a] [] pos) (wLen wr) := de_callB (CallR.or call_len call_lenD) (hK ▸ opa_len) roF_mono hg hm (by decide +kernel) ha (he := he)
theorem de_list (hK : G.K = X.K) (hm : X.mg "list" = none) (ha : DA G X [a] wr) (hg : Gl X "list" := by rfl) (he : starEach [a] X.env = (false, eval a X.env) :: starEach [] X.env := by rfl) : DE G X (.Call (.Name "list" p) [a] [] pos) (wList wr) := de_callT call_list_of (hK ▸ opa_list) roL_mono hg hm (by decide +kernel) ha (he := he)
theorem de_tuple (hK : G.K = X.K) (hm : X.mg "tuple" = none) (ha : DA G X [a] wr) (hg : Gl X "tuple" := by rfl) (he : starEach [a] X.env = (false, eval a X.env) :: starEach [] X.env := by rfl) : DE G X (.Call (.Name "tuple" p) [a] [] pos) (wTuple wr) := de_callT call_tuple_of (hK ▸ opa_tup) roTup_mono hg hm (by decide +kernel) ha (he := he)
/-- x.bit_length() -/
abbrev wBits := wUn fun i => .int (Builtin.Int.intBits i : Nat)
theorem de_bits {apos : Pos} (ho : DE G X a wa) (hbase : attributeBase a "bit_length" X.env (eval a X.env) = eval a X.env := by rfl) (hline : (apos.endLine == pos.line) = true := by rfl) : DE G X (.Call (.Attribute a "bit_length" apos) [] [] pos) (wBits wa) := by
  refine ⟨wUn_mono ho.mono, pe_weak (pe_bits ho.pe hbase hline) fun σ H Q h => ?_⟩
  obtain ⟨ρ, τ, hA, hw⟩ := h
  refine ⟨ρ, τ, hA, ho.mono (fun x ρ1 k nx l v H1 A1 => ?_) (fun _ _ e => e) hw⟩
  obtain ⟨B, h1, h2⟩ := A1.still nx
  split at k
  · rename_i c e; rw [e] at h1; cases h1
    exact ⟨c, rfl, k (fun z => by cases z) l _ H1 (At.addSh A1.len h2 (.int _))⟩
  · exact k.elim

/-! ### isinstance -/
def kdT : D → Option String
  | .non => some "NoneType"
  | .bl _ => some "bool"
  | .int _ => some "int"
  | .str _ => some "str"
  | .lst _ => some "list"
  | .tup _ => some "tuple"
  | .dic _ _ => some "dict"
  | _ => none
theorem tyx_of {K : PySem.W.Frag} {so : Option Addr} {B H : Hp} {v : V} {d : D} {T : String} (e : Same B H) (h : Rp K so B v d) (k : kdT d = some T) : TyX K H v (.type T) := by
  cases h with
  | non => cases k; exact .base .non
  | bl b => cases k; exact .base (.bl _)
  | int i => cases k; exact .base (.int _)
  | str x => cases k; exact .base (.str _)
  | @lst p vs ds hs hr => cases k; exact .base (.lst (e _ _ hs))
  | @tup p vs ds hs hr =>
    cases k
    rcases sqT_same e hs with (h | ⟨o, h⟩) | ⟨o, its, n, h1, h2, _⟩
    · exact .base (.tup h)
    · exact .fTuple h
    · exact .kTuple h1 h2
  | dic h l hr => cases k; exact .base (.dK (e _ _ h))
  | ins _ _ _ => cases k
  | exn _ _ => cases k
  | exa _ _ _ _ => cases k
  | sto _ => cases k
  | scr _ => cases k
end
end DL
set_option Elab.async false
set_option maxRecDepth 100000
set_option maxHeartbeats 4000000
set_option linter.unusedVariables false
/-! data-level layer, part g: isinstance -/
namespace DL
open PySem PySem.Spec PyProof.Rows L2

/-- what an own class of errors must say -/
structure ExK (K : PySem.W.Frag) (C : Addr) : Prop where
  hg : PySem.W.findIn K (.ref C) "__getattribute__" = some (some (.builtin "BaseException.__getattribute__"))
  hk : PySem.W.findIn K (.ref C) "__getattr__" = some none
  hs : PySem.W.subIn K (.ref C) (.type "BaseException") = some true
  hd : PySem.W.hasDictIn K C = true
  ha : PySem.W.findIn K (.ref C) "__class__" = some (some (.builtin "object.__class__"))
  hn : PySem.W.specialIn K (.builtin "object.__class__") "__get__" = some (some (.builtin "getset_descriptor.__get__"))
  ht : PySem.W.takesIn K (.builtin "object.__class__") = some true
  hm : PySem.W.mroIn K C (.type "object") = some true
def exkB (K : PySem.W.Frag) (C : Addr) : Bool :=
  decide (PySem.W.findIn K (.ref C) "__getattribute__" = some (some (.builtin "BaseException.__getattribute__"))) && (decide (PySem.W.findIn K (.ref C) "__getattr__" = some none) && (decide (PySem.W.subIn K (.ref C) (.type "BaseException") = some true) &&
  (PySem.W.hasDictIn K C && (decide (PySem.W.findIn K (.ref C) "__class__" = some (some (.builtin "object.__class__"))) && (decide (PySem.W.specialIn K (.builtin "object.__class__") "__get__" = some (some (.builtin "getset_descriptor.__get__"))) &&
  (decide (PySem.W.takesIn K (.builtin "object.__class__") = some true) && decide (PySem.W.mroIn K C (.type "object") = some true)))))))
theorem exk_of {K : PySem.W.Frag} {C : Addr} (h : exkB K C = true) : ExK K C := by
  unfold exkB at h
  simp only [Bool.and_eq_true, decide_eq_true_eq] at h
  obtain ⟨h1, h2, h3, h4, h5, h6, h7, h8⟩ := h
  exact ⟨h1, h2, h3, h4, h5, h6, h7, h8⟩
/-- what an own class of instances must say -/
structure InK (K : PySem.W.Frag) (C : Addr) : Prop where
  cl : Cls K C
  ha : PySem.W.findIn K (.ref C) "__class__" = some (some (.builtin "object.__class__"))
  hn : PySem.W.specialIn K (.builtin "object.__class__") "__get__" = some (some (.builtin "getset_descriptor.__get__"))
  ht : PySem.W.takesIn K (.builtin "object.__class__") = some true
  hm : PySem.W.mroIn K C (.type "object") = some true
/-- an exception stands among the pins -/
def PinD (pn : List (Addr × Obj)) : D → Prop
  | .exc _ _ p oe => (p, oe) ∈ pn
  | _ => True
/-- isinstance(d, u) is b -/
def Isi (K : PySem.W.Frag) (d : D) (u : Value) (b : Bool) : Prop := match d with
  | .ins c _ _ => InK K (He.ga K c) ∧ PySem.W.kitOne K (.ref (He.ga K c)) u = some b
  | .exc c _ _ _ => ExK K (He.ga K c) ∧ PySem.W.kitOne K (.ref (He.ga K c)) u = some b
  | d => ∃ t, kdT d = some t ∧ PySem.W.kitOne K (.type t) u = some b
section
variable {K : PySem.W.Frag} {so : Option Addr} {B H : Hp} {v : V} {d : D}
/-- the error's object as the library reads it -/
theorem exc_inst {X : Cx} {pins : List (Addr × Obj)} {σ : St} {s : Shared} {v : V} {p : Addr} {oe : Obj} {c : Str} {a : Option D} (I : Inv X pins σ H s) (hp : (p, oe) ∈ X.pn) (e : Same B H) (h : Rp K so B v (.exc c a p oe)) :
    v = .ref p ∧ ∃ od, PySem.W.InstAt s.heap p oe (He.ga K c) od := by
  have hg : s.heap.get? p = some oe := (I.pin (p, oe) (List.mem_append_left _ hp)).1
  cases h with
  | exn hz hf =>
    obtain ⟨vs, hv⟩ := hf
    refine ⟨rfl, none, ?_⟩
    obtain ⟨oc, od, oda, osl⟩ := oe
    obtain ⟨h1, h2, _⟩ := hz
    dsimp only at h1 h2 hv
    subst h1 h2 hv
    exact ⟨hg, rfl, rfl, trivial⟩
  | @exa _ dd _ _ v _ hz hf hd hv =>
    have hx : ObjOk X.prog X.w H s.heap dd (.xd [(fieldOf c, v)]) := I.hok dd _ (e _ _ hd)
    obtain ⟨mA, hns, hr⟩ := hx
    obtain ⟨od, ho, hl⟩ := lookIn_ns hns
    obtain ⟨vs, hd⟩ := hf
    exact ⟨rfl, some od, hg, hz.1, by unfold PySem.W.notCls; rw [hd] <;> rfl, by rw [hz.2.1]; exact ho⟩
/-- what the library's isinstance asks of such a value -/
theorem isi_kit {X : Cx} {pins : List (Addr × Obj)} {σ : St} {s : Shared} {w u : Value} {b : Bool} (hK : K = X.K) (I : Inv X pins σ H s) (e : Same B H) (h : Rp K so B v d) (r : RelV v w) (k : Isi K d u b) (pd : PinD X.pn d) :
    ∃ (t : Value) (P : Heap → Prop), PySem.W.KitX X.K w t P ∧ P s.heap ∧ PySem.W.kitOne X.K t u = some b ∧ w ≠ .builtin "__main__.__loader__#opaque" := by
  subst hK
  have base : ∀ {t}, kdT d = some t → PySem.W.kitOne X.K (.type t) u = some b → ∃ (t : Value) (P : Heap → Prop), PySem.W.KitX X.K w t P ∧ P s.heap ∧ PySem.W.kitOne X.K t u = some b ∧ w ≠ .builtin "__main__.__loader__#opaque" := fun {t} h1 h2 => by
    obtain ⟨P, z, p, hx⟩ := kit_of I r (tyx_of e h h1)
    exact ⟨_, P, z, p, h2, hx⟩
  cases d with
  | non => obtain ⟨t, h1, h2⟩ := k; exact base h1 h2
  | bl _ => obtain ⟨t, h1, h2⟩ := k; exact base h1 h2
  | int _ => obtain ⟨t, h1, h2⟩ := k; exact base h1 h2
  | str _ => obtain ⟨t, h1, h2⟩ := k; exact base h1 h2
  | lst _ => obtain ⟨t, h1, h2⟩ := k; exact base h1 h2
  | tup _ => obtain ⟨t, h1, h2⟩ := k; exact base h1 h2
  | dic _ _ => obtain ⟨t, h1, h2⟩ := k; exact base h1 h2
  | sto => obtain ⟨t, h1, h2⟩ := k; cases h1
  | scr _ => obtain ⟨t, h1, h2⟩ := k; cases h1
  | ins c fs ds =>
    obtain ⟨z, h2⟩ := k
    cases h with
    | ins hp hl hr =>
      obtain ⟨P, z, p, hx⟩ := kit_of I r (.base (.ins (e _ _ hp) z.cl z.ha z.hn z.ht z.hm))
      exact ⟨_, P, z, p, h2, hx⟩
  | exc c a p oe =>
    obtain ⟨z, h2⟩ := k
    obtain ⟨rfl, od, J⟩ := exc_inst I pd e h
    cases (show w = Value.ref p from r)
    exact ⟨_, _, PySem.W.kitx_exc (by obtain ⟨cd, hc, _⟩ := PySem.W.any_some z.hd; rw [hc] <;> rfl) z.hg z.hk z.hs z.ha z.hn z.ht z.hm, J, h2, fun z => nomatch z⟩
end
/-- isinstance(x, c), the answer by f -/
def wIsi (f : D → Option Bool) (pn : List (Addr × Obj)) (wa : DT Sl) : DT Sl := fun ρ Q E => wa ρ (fun x ρ1 => match f x.dat with
  | some b => PinD pn x.dat ∧ Q (.sh (.bl b)) ρ1
  | none => False) E
theorem wIsi_mono {f : D → Option Bool} {pn : List (Addr × Obj)} {wa : DT Sl} (ha : Mono wa) : Mono (wIsi f pn wa) := fun _ _ _ _ _ hq he q => ha (fun x ρ1 k => by
  split at k
  · exact ⟨k.1, hq _ _ k.2⟩
  · exact k.elim) he q
section
variable {G : Gx} {X : Cx} {a c : Expr} {wa : DT Sl} {p pos : Pos}
theorem call_isiD {v : V} {u : Value} {d : D} {b : Bool} {so : Option Addr} {B H : Hp} (hK : G.K = X.K) (e : Same B H) (h : Rp G.K so B v d) (k : Isi G.K d u b) (pd : PinD X.pn d) :
    ∀ (pins : List (Addr × Obj)) (s : Shared) (σ : St) (us : List Value) (Q : VK), Inv X pins σ H s → ∀ w, RelV v w → Q (.bl b) H → wpAny (model X.prog X.w) X.A (call (.builtin "isinstance") [w, u]) (EP X pins σ Q) X.xe s := by
  intro pins s σ us Q I w r q
  obtain ⟨t, P, z, pp, e1, hx⟩ := isi_kit hK I e h r k pd
  exact PySem.W.kia_one z I.kIn pp (hK ▸ e1) hx fun tk => ⟨.bl b, H, I.tok tk, rfl, q⟩
/-- what isinstance's arguments are -/
def rIsiD (G : Gx) (pn : List (Addr × Obj)) (u : Value) : List V → Hp → VK → Prop := fun xs H Q => ∃ v c d b B so, xs = [v, c] ∧ (∀ w, RelV c w → w = u) ∧ Same B H ∧ Rp G.K so B v d ∧ Isi G.K d u b ∧ PinD pn d ∧ Q (.bl b) H
theorem cr_isi {u : Value} (hK : G.K = X.K) : CallR X (.builtin "isinstance") (rIsiD G X.pn u) := by
  intro pins s σ H xs us Q I r h
  obtain ⟨v, c, d, b, B, so, rfl, hc, e, hv, k, pd, q⟩ := h
  obtain ⟨u1, u2, rfl, r1, r2⟩ := vals2 r
  rw [hc u2 r2]
  exact call_isiD hK e hv k pd pins s σ [] Q I u1 r1 q
theorem de_isi {cv : V} {u : Value} {f : D → Option Bool} (hK : G.K = X.K) (hm : X.mg "isinstance" = none) (hc : PE X c (tC cv)) (hcv : ∀ w, RelV cv w → w = u) (hf : ∀ d b, f d = some b → Isi G.K d u b) (ha : DE G X a wa) (hg : Gl X "isinstance" := by rfl)
    (he : starEach [a, c] X.env = (false, eval a X.env) :: starEach [c] X.env := by rfl) (he2 : starEach [c] X.env = (false, eval c X.env) :: starEach [] X.env := by rfl) (hpl : (backTo pos (starEach [c] X.env)).any (·.1) = false := by rfl) :
    DE G X (.Call (.Name "isinstance" p) [a, c] [] pos) (wIsi f X.pn wa) := by
  refine ⟨wIsi_mono ha.mono, pe_weak (pe_callB (cr_isi (u := u) hK) hg hm (by decide +kernel) (pa_cons ha.pe (pa_cons hc pa_nil he2) he) (he := he) (hpl := hpl)) fun σ H Q h => ?_⟩
  obtain ⟨ρ, τ, hA, hw⟩ := h
  refine ⟨ρ, τ, hA, ha.mono (fun x ρ1 k nx l v H1 A1 => ?_) (fun _ _ e => e) hw⟩
  obtain ⟨B, h1, h2⟩ := A1.still nx
  split at k
  · rename_i b e
    exact ⟨v, cv, _, b, B, G.so, rfl, hcv, h2.hi, h1, hf _ _ e, k.1, k.2 (fun z => by cases z) l _ H1 (At.addSh A1.len h2 (.bl _))⟩
  · exact k.elim
end
/-! ### the built-in classes -/
def kitT (t T : String) (b : Bool) : Bool := decide (kitB t T = some b)
theorem isi_ty {K : PySem.W.Frag} {d : D} {t T : String} {b : Bool} (h : kdT d = some t) (k : kitT t T b = true) : Isi K d (.type T) b := by
  have q : PySem.W.kitOne K (.type t) (.type T) = some b := kit_ty (of_decide_eq_true k)
  cases d <;> first
    | exact ⟨_, h, q⟩
    | cases h
def isInt : D → Option Bool | .int _ => some true | .bl _ => some true | .non => some false | .str _ => some false | .lst _ => some false | .tup _ => some false | .dic _ _ => some false | _ => none
def isBool : D → Option Bool | .bl _ => some true | .int _ => some false | .non => some false | .str _ => some false | .lst _ => some false | .tup _ => some false | .dic _ _ => some false | _ => none
def isStr : D → Option Bool | .str _ => some true | .int _ => some false | .bl _ => some false | .non => some false | .lst _ => some false | .tup _ => some false | .dic _ _ => some false | _ => none
def isLst : D → Option Bool | .lst _ => some true | .int _ => some false | .bl _ => some false | .non => some false | .str _ => some false | .tup _ => some false | .dic _ _ => some false | _ => none
def isTup : D → Option Bool | .tup _ => some true | .int _ => some false | .bl _ => some false | .non => some false | .str _ => some false | .lst _ => some false | .dic _ _ => some false | _ => none
theorem isInt_ok {K : PySem.W.Frag} : ∀ d b, isInt d = some b → Isi K d (.type "int") b
  | .int _, _, h => by cases h; exact isi_ty (t := "int") rfl (by decide +kernel)
  | .bl _, _, h => by cases h; exact isi_ty (t := "bool") rfl (by decide +kernel)
  | .non, _, h => by cases h; exact isi_ty (t := "NoneType") rfl (by decide +kernel)
  | .str _, _, h => by cases h; exact isi_ty (t := "str") rfl (by decide +kernel)
  | .lst _, _, h => by cases h; exact isi_ty (t := "list") rfl (by decide +kernel)
  | .tup _, _, h => by cases h; exact isi_ty (t := "tuple") rfl (by decide +kernel)
  | .dic _ _, _, h => by cases h; exact isi_ty (t := "dict") rfl (by decide +kernel)
  | .ins _ _ _, _, h => by cases h
  | .exc _ _ _ _, _, h => by cases h
  | .sto, _, h => by cases h
  | .scr _, _, h => by cases h
theorem isBool_ok {K : PySem.W.Frag} : ∀ d b, isBool d = some b → Isi K d (.type "bool") b
  | .int _, _, h => by cases h; exact isi_ty (t := "int") rfl (by decide +kernel)
  | .bl _, _, h => by cases h; exact isi_ty (t := "bool") rfl (by decide +kernel)
  | .non, _, h => by cases h; exact isi_ty (t := "NoneType") rfl (by decide +kernel)
  | .str _, _, h => by cases h; exact isi_ty (t := "str") rfl (by decide +kernel)
  | .lst _, _, h => by cases h; exact isi_ty (t := "list") rfl (by decide +kernel)
  | .tup _, _, h => by cases h; exact isi_ty (t := "tuple") rfl (by decide +kernel)
  | .dic _ _, _, h => by cases h; exact isi_ty (t := "dict") rfl (by decide +kernel)
  | .ins _ _ _, _, h => by cases h
  | .exc _ _ _ _, _, h => by cases h
  | .sto, _, h => by cases h
  | .scr _, _, h => by cases h
theorem isStr_ok {K : PySem.W.Frag} : ∀ d b, isStr d = some b → Isi K d (.type "str") b
  | .int _, _, h => by cases h; exact isi_ty (t := "int") rfl (by decide +kernel)
  | .bl _, _, h => by cases h; exact isi_ty (t := "bool") rfl (by decide +kernel)
  | .non, _, h => by cases h; exact isi_ty (t := "NoneType") rfl (by decide +kernel)
  | .str _, _, h => by cases h; exact isi_ty (t := "str") rfl (by decide +kernel)
  | .lst _, _, h => by cases h; exact isi_ty (t := "list") rfl (by decide +kernel)
  | .tup _, _, h => by cases h; exact isi_ty (t := "tuple") rfl (by decide +kernel)
  | .dic _ _, _, h => by cases h; exact isi_ty (t := "dict") rfl (by decide +kernel)
  | .ins _ _ _, _, h => by cases h
  | .exc _ _ _ _, _, h => by cases h
  | .sto, _, h => by cases h
  | .scr _, _, h => by cases h
theorem isLst_ok {K : PySem.W.Frag} : ∀ d b, isLst d = some b → Isi K d (.type "list") b
  | .int _, _, h => by cases h; exact isi_ty (t := "int") rfl (by decide +kernel)
  | .bl _, _, h => by cases h; exact isi_ty (t := "bool") rfl (by decide +kernel)
  | .non, _, h => by cases h; exact isi_ty (t := "NoneType") rfl (by decide +kernel)
  | .str _, _, h => by cases h; exact isi_ty (t := "str") rfl (by decide +kernel)
  | .lst _, _, h => by cases h; exact isi_ty (t := "list") rfl (by decide +kernel)
  | .tup _, _, h => by cases h; exact isi_ty (t := "tuple") rfl (by decide +kernel)
  | .dic _ _, _, h => by cases h; exact isi_ty (t := "dict") rfl (by decide +kernel)
  | .ins _ _ _, _, h => by cases h
  | .exc _ _ _ _, _, h => by cases h
  | .sto, _, h => by cases h
  | .scr _, _, h => by cases h
theorem isTup_ok {K : PySem.W.Frag} : ∀ d b, isTup d = some b → Isi K d (.type "tuple") b
  | .int _, _, h => by cases h; exact isi_ty (t := "int") rfl (by decide +kernel)
  | .bl _, _, h => by cases h; exact isi_ty (t := "bool") rfl (by decide +kernel)
  | .non, _, h => by cases h; exact isi_ty (t := "NoneType") rfl (by decide +kernel)
  | .str _, _, h => by cases h; exact isi_ty (t := "str") rfl (by decide +kernel)
  | .lst _, _, h => by cases h; exact isi_ty (t := "list") rfl (by decide +kernel)
  | .tup _, _, h => by cases h; exact isi_ty (t := "tuple") rfl (by decide +kernel)
  | .dic _ _, _, h => by cases h; exact isi_ty (t := "dict") rfl (by decide +kernel)
  | .ins _ _ _, _, h => by cases h
  | .exc _ _ _ _, _, h => by cases h
  | .sto, _, h => by cases h
  | .scr _, _, h => by cases h
section
variable {G : Gx} {X : Cx} {a : Expr} {wa : DT Sl} {p q pos : Pos}
theorem de_isiT {T : Str} {n : String} {f : D → Option Bool} (hK : G.K = X.K) (hm : X.mg "isinstance" = none) (hT : X.mg T = none) (hb : bootBuiltins T = some (.type n)) (hf : ∀ d b, f d = some b → Isi G.K d (.type n) b) (ha : DE G X a wa) (hg : Gl X "isinstance" := by rfl) (hgT : Gl X T := by rfl)
    (hn : T ≠ "__name__" := by decide) (hd : (T == ("__debug__" : Str)) = false := by decide)
    (he : starEach [a, .Name T q] X.env = (false, eval a X.env) :: starEach [.Name T q] X.env := by rfl) : DE G X (.Call (.Name "isinstance" p) [a, .Name T q] [] pos) (wIsi f X.pn wa) :=
  de_isi (cv := .ty n) hK hm (pe_bltn hgT hT hb rfl hn hd) (fun w r => r) hf ha (hg := hg) (he := he)
theorem de_isiC {T : Str} {f : D → Option Bool} (hK : G.K = X.K) (hm : X.mg "isinstance" = none) (hT : X.mg T = some (.ref (He.ga G.K T))) (hf : ∀ d b, f d = some b → Isi G.K d (.ref (He.ga G.K T)) b) (ha : DE G X a wa) (hg : Gl X "isinstance" := by rfl) (hgT : Gl X T := by rfl)
    (hd : (T == ("__debug__" : Str)) = false := by decide)
    (he : starEach [a, .Name T q] X.env = (false, eval a X.env) :: starEach [.Name T q] X.env := by rfl) : DE G X (.Call (.Name "isinstance" p) [a, .Name T q] [] pos) (wIsi f X.pn wa) :=
  de_isi (cv := .ref (He.ga G.K T)) hK hm (pe_glob hgT hT rfl hd) (fun w r => r) hf ha (hg := hg) (he := he)
end
end DL
set_option Elab.async false
set_option maxRecDepth 100000
set_option maxHeartbeats 4000000
set_option linter.unusedVariables false
/-! super().__init__(e) at the start of an own error's __init__, over the layer -/
namespace DL
open PySem PySem.Spec PyProof.Rows L2 NdefX

/-- what the written part says of such an __init__ -/
structure SupC (P : Program) (K : PySem.W.Frag) (C fI : Addr) (F : NF) (doc pm ctv : Value) : Prop where
  ox : OexC K C
  fn : ∃ oc od osl, K.lookup fI = some ⟨oc, od, .func (F.fd doc pm ctv), osl⟩
  cell : ∃ cc cl cld csl, F.cl = [(("__class__" : Str), cc)] ∧ K.lookup cc = some ⟨cl, cld, .cell (some (.ref C)), csl⟩
  code : PySem.W.codeIn K (.ref F.c) F.qual = true
  codeO : ∃ ccl cdd vs ccs file tf, K.lookup F.c = some ⟨ccl, cdd, .fields vs, ccs⟩ ∧ vs[2]? = some (.str file tf) ∧ ((P.main.file : Str) == file) = true
  mro : PySem.W.mroIn K C (.ref C) = some true
  sup : PySem.W.ks_superIn K C C "__init__" = some (some (.builtin "ValueError.__init__"))
  sub : PySem.W.subIn K (.ref C) (.type "ValueError") = some true
  any : PySem.W.nsIn K cStatics "thirdparty.any" = some none
  top : (P.main.scope.names.lookup ("super" : Str)).isSome = false

section
variable {X : Cx} {pins : List (Addr × Obj)} {σ : L2.St} {H : Hp} {s : Shared} {a C u : Addr}
/-- the bound ValueError.__init__ called -/
theorem mw_call {us : List Value} {Q : Value → Shared → Prop} (T : OexC X.K C) (I : Inv X pins σ H s) (e : H a = some (exo a C none)) (hu : s.heap.get? u = some (PySem.W.kxs_mw "ValueError.__init__" a)) (hl : us.length ≤ sizeLine)
    (h : ∀ s', Inv X pins σ H s' → Q .none s') : wpAny (model X.prog X.w) X.A (call (.ref u) us) Q X.xe s := by
  obtain ⟨nm, q, N, bs, bm, sn, sub, ab, col, dd, k0, k1, k2, k3, k5, hC, hbm⟩ := T.cls
  obtain ⟨t1, ho⟩ := exo_at I.hok e
  have hCh := I.kIn _ _ hC
  obtain ⟨hp, g, d, t, os⟩ := s
  refine wpAny_call (codeAny_of_tree ?_)
  show wpAny _ X.A.in1 (callAny (.ref u) ⟨us, []⟩) _ _ _
  simp only [callAny]
  refine wpAny_bind (wpAny_load hu ?_)
  simp only [PySem.W.kxs_mw, show (Value.type "method-wrapper" == Value.type "method" || Value.type "method-wrapper" == Value.type "builtin_function_or_method" || Value.type "method-wrapper" == Value.type "method-wrapper") = true by decide, if_true]
  refine PySem.W.KFB.if_so (by decide) ?_
  refine wpAny_bind (PySem.W.check_bound_init F.excBase_ValueError.toExcCallFacts hCh ho rfl ?_)
  refine wpAny_bind (wpAny_pure (wpAny_pure ?_))
  refine ⟨plainId_quiet F.excBase_ValueError.init.plain _, codeAny_builtin F.excBase_ValueError.initEntry ?_⟩
  refine PySem.W.exc_init_tree (cls := .ref C) (t0 := t1) (dv := none) (c2 := .none) (c3 := .none) (b4 := .bool false) ho hl fun h' k hx _ => ?_
  have J := I.write (t' := t) (x := a) (e := a) (o := exo a C none) (by rw [e]; exact True.intro) (.inl rfl) k ⟨_, hx⟩ (exo_ok hx)
  have eu : upd H a (exo a C none) = H := by
    funext b
    by_cases hb : b = a
    · rw [hb, upd_same, e]
    · rw [upd_ne hb]
  rw [eu] at J
  exact h _ J
end

section
variable {CX : CXT} {P : Program} {w : World} {K : PySem.W.Frag} {mg : Str → Option Value} {base : Heap} {N : List Str} {C fI : Addr} {F : NF} {k : Nat} {sp : Sp} {doc pm ctv : Value} {ps : List Str}
theorem sup_ok (S : SupC P K C fI F doc pm ctv) (ms : mg "super" = none) (Sc : NScope N ps ["__class__"] F.scope) {e : Expr} {rest : List Stmt} {p0 p1 p2 p3 p4 p5 : Pos}
    (hbd : F.body = .Expr (.Call (.Attribute (.Call (.Name "super" p0) [] [] p1) "__init__" p2) [e] [] p3) p4 :: rest)
    {ar : Arg} (har : (F.params.posonlyargs ++ F.params.args).head? = some ar) (hps : ps.head? = some ar.arg) (hks : F.scope.names.lookup ("super" : Str) = some .globalImplicit) (hkc : F.scope.names.lookup ("__class__" : Str) = some .free) (hka : F.scope.names.lookup ar.arg = some .local)
    (len : ∀ vs H Q E, sp vs H Q E → vs.length = ps.length)
    (hst : ∀ env : Env, starEach [e] env = (false, eval e env) :: starEach [] env)
    (hsw : ∀ env : Env, swapsWith (.Call (.Attribute (.Call (.Name "super" p0) [] [] p1) "__init__" p2) [e] [] p3) none p4.line env = pure false)
    (hev : ∀ env : Env, eval (.Call (.Attribute (.Call (.Name "super" p0) [] [] p1) "__init__" p2) [e] [] p3) env = (do
      let ov ← attributeBase (.Call (.Name "super" p0) [] [] p1) "__init__" env (eval (.Call (.Name "super" p0) [] [] p1) env)
      standAt p2.atName
      let (f, first) ← holding [ov] (getMethod ov "__init__" (pure false))
      callWith p3 f first (backTo p3 (starEach [e] env)) []))
    (hbody : ∀ (A : Around) (outer : List Env) (s : Shared) (H : Hp) (vs : List V) (Q : VK) (E : XK), Room k (A.deeper (envF F fI s.heap.objs.size)) → sp vs H Q E →
      ∃ te tr a, PE (ncx CX P w K mg base N F fI A outer s H E) e te ∧ PSs (ncx CX P w K mg base N F fI A outer s H E) rest tr ∧ vs.head? = some (.ref a) ∧ H a = some (exo a C none) ∧
        te (startF N vs [none]) H (fun _ H1 => H1 a = some (exo a C none) ∧ tr { nx := fun _ H' => Q .non H', rt := Q } (startF N vs [none]) H1)) :
    FnOk P w K mg base CX (k + 1) fI (F.fd doc pm ctv) ps sp := by
  refine ⟨len, fun A outer s H args us vs Q E hr e0 hb r hsp => ?_⟩
  have hl := len _ _ _ _ hsp
  have KX : K.In s.heap := e0.mod.kin.keeps fun b o e => (e0.bs b o e).1
  have lim : s.heap.NoLimit := e0.mod.nolimit.keeps fun b o e => (e0.bs b o e).1
  obtain ⟨oc, od, osl, lk⟩ := S.fn
  obtain ⟨cc, cl, cld, csl, ecl, lcc⟩ := S.cell
  obtain ⟨ccl, cdd, cvs, ccs, file, tf, lco, hvs, hfile⟩ := S.codeO
  obtain ⟨te, tr, a, he, hrest, hva, ha, hq⟩ := hbody A outer s H vs Q E (hr.deeper _) hsp
  refine ks_codeAny_call_defAt hr.depth (KX _ _ lk) rfl lim (PySem.W.codeRec_of KX S.code) rfl hb (fun x hx => Sc.nocell x hx) (fun x hx => ?_) (fun h₁ hns kp => ?_) Sc.co Sc.gen Sc.kind
  · obtain ⟨n, v⟩ := x
    exact Sc.par n (List.of_mem_zip hx).1
  have Cs : CellsAt F.cl ["__class__"] [none] s.heap H := {
    len := rfl
    all := fun y c hy => by
      rw [ecl] at hy
      have e2 : c = cc := by
        unfold List.lookup at hy
        split at hy
        · exact (Option.some.inj hy).symm
        · cases hy
      subst e2
      exact ⟨(e0.bs _ _ (e0.mod.kin _ _ lcc)).2, _, _, KX _ _ lcc, rfl⟩
    inj := fun x y c hx hy => by
      rw [ecl] at hx hy
      unfold List.lookup at hx hy
      split at hx
      · split at hy
        · rename_i q1 _ q2
          exact (beq_iff_eq.mp q1).trans (beq_iff_eq.mp q2).symm
        · cases hy
      · cases hx
    has := fun i y hy => by
      have e2 : y = "__class__" := by
        cases i with
        | zero => exact (Option.some.inj hy).symm
        | succ i => simp at hy
      subst e2
      refine ⟨cc, by rw [ecl]; rfl, fun v hv => ?_⟩
      cases i with
      | zero => simp at hv
      | succ i => simp at hv }
  have I : Inv (ncx CX P w K mg base N F fI A outer s H E) [] (startF N vs [none]) H ⟨h₁, s.gens, s.drawn, s.toks + (ps.zip us).length, s.os⟩ := inv_startN Sc hr.hd e0 hl r Cs hns kp
  show _root_.PySem.wpAt (model P w) (A.deeper (envF F fI s.heap.objs.size)) (.func F.body (envF F fI s.heap.objs.size)) (execs F.body (envF F fI s.heap.objs.size)) _ _ ⟨h₁, s.gens, s.drawn, s.toks + (ps.zip us).length, s.os⟩
  have KI := I.kIn
  obtain ⟨nm, qn, Nn, bs, bm, sn, sub, ab, col, dd, k0, k1, k2, k3, k5, hC, hbm⟩ := S.ox.cls
  have hcl : PySem.W.clsIn K C = some { name := nm, bases := bs, mro := .ref C :: bm, ns := Nn, qualname := qn, hasDict := true, slotNames := sn, subclasses := sub, abstract := ab, collection := col, hasDel := false } := by unfold PySem.W.clsIn; rw [hC] <;> rfl
  obtain ⟨t1, hoa⟩ := exo_at I.hok ha
  have hCh := KI _ _ hC
  rw [hbd]
  refine ks_wpAt_execs_cons (ks_wpAt_Expr_any (ks_wpAt_MethodCall (pl := pure false) ?_ (hev _)) (by simp [interactive, envF, PySem.W.envX, Sc.kind]) (hsw _))
  rw [← hbd]
  refine ks_wpAt_super_base (env := envF F fI s.heap.objs.size) hks hkc (by decide) rfl (KI _ _ lk) rfl har rfl (KI _ _ lco) rfl hvs hfile S.top ?_
  obtain ⟨mb, hmb1, hmb2⟩ := e0.mod.blt
  have hgl : h₁.Ns mainGlobals mg := e0.mod.glob.keeps I.bk
  have hbl : h₁.Ns builtinsNs mb := hmb1.keeps I.bk
  have ndP : ps.Nodup := by
    have q := Sc.nd.sublist (List.take_sublist (ps.length + (["__class__"] : List Str).length) N)
    rw [Sc.pre] at q
    exact (List.nodup_append.mp q).1
  have hself : (ps.zip us).reverse.lookup ar.arg = some (.ref a) := by
    cases vs with
    | nil => cases hva
    | cons v vs' =>
      have ev : v = .ref a := Option.some.inj hva
      subst ev
      cases r with
      | @cons _ u _ us' ra _ =>
        obtain rfl : u = Value.ref a := ra
        refine zip_look (i := 0) ndP ?_ rfl
        cases ps with
        | nil => cases hps
        | cons p ps' => exact hps
  refine PySem.W.ks_loadName_global Sc.kind hks (PySem.Calls.loadGlobal_builtin (env := envF F fI s.heap.objs.size) hgl ms hbl ((hmb2 _ (by decide)).trans (by decide +kernel)) ⟨rfl, ?_⟩)
  refine wpAny_loadName_free Sc.kind hkc (show F.cl.lookup ("__class__" : Str) = some cc by rw [ecl]; rfl) ⟨_, KI _ _ lcc, rfl⟩ ?_
  refine wpAny_loadName_local Sc.kind hka hns hself ?_
  refine ks_wpAny_isType_cls hCh rfl ⟨rfl, ?_⟩
  refine ks_wpAny_call_super hCh rfl hoa rfl (fun c z => by cases z) (PySem.W.looks_mroIn KI S.mro) (fun h2 e2 kp2 => ?_)
  have I1 : Inv (ncx CX P w K mg base N F fI A outer s H E) [] (startF N vs [none]) H ⟨h2, s.gens, s.drawn, s.toks + (ps.zip us).length, s.os⟩ := I.kept kp2
  have K1 := I1.kIn
  have hoa2 := kp2 _ _ hoa
  have IA : PySem.W.InstAt h2 a { cls := .ref C, dict := none, data := .fields #[.ref t1, .none, .none, .none, .bool false, .none] } C none := ⟨hoa2, rfl, rfl, trivial⟩
  have hsup := S.sup
  unfold PySem.W.ks_superIn at hsup
  rw [hcl] at hsup
  refine PySem.W.kxs_getMethod PySem.W.kxs_ValueError e2 (PySem.W.looks_opaque K1 S.any) (fun A Q E s k q => wpAny_bind ((PySem.W.looks_clsIn K1 hcl) A _ E s k (wpAny_pure q))) rfl K1 hsup
    (IA.type.andThen (PySem.W.looks_subIn K1 S.sub)) (PySem.W.ks_ne K1 IA hcl) (by decide) ?_
  have kp3 : ∀ b o, h2.get? b = some o → (h2.push (PySem.W.kxs_mw "ValueError.__init__" a)).get? b = some o := fun b o z => Heap.get?_push_of_some _ z
  have hmw : (h2.push (PySem.W.kxs_mw "ValueError.__init__" a)).get? h2.objs.size = some (PySem.W.kxs_mw "ValueError.__init__" a) := Heap.get?_push_at rfl rfl
  have I2 : Inv (ncx CX P w K mg base N F fI A outer s H E) [(h2.objs.size, PySem.W.kxs_mw "ValueError.__init__" a)] (startF N vs [none]) H ⟨h2.push (PySem.W.kxs_mw "ValueError.__init__" a), s.gens, s.drawn, s.toks + (ps.zip us).length + 1, s.os⟩ :=
    (I1.kept (t' := s.toks + (ps.zip us).length + 1) kp3).pins_of fun p hp => by
      have ep : p = (h2.objs.size, PySem.W.kxs_mw "ValueError.__init__" a) := by simpa using hp
      subst ep
      exact ⟨hmw, I1.hok.fresh (Nat.le_refl _), Nat.ne_of_gt I1.lt, I1.nofs (Nat.le_refl _), fun v z => by cases z⟩
  rw [hst]
  refine PySem.W.kxs_callWith (i := "ValueError.__init__") (x := a) rfl ?_
  refine PySem.Calls.evalArgs_plain ?_
  have hpa := (pa_cons he pa_nil (hst _)).run p3 _ _ _ _ (fun xs H1 => match xs with
    | [_] => H1 a = some (exo a C none) ∧ tr { nx := fun _ H' => Q .non H', rt := Q } (startF N vs [none]) H1
    | _ => False) I2 hq
  rw [hst] at hpa
  refine thn hpa fun us' s3 hs3 => ?_
  obtain ⟨vs', H1, I3, r', q3⟩ := hs3
  have hpin := (I3.pin (h2.objs.size, PySem.W.kxs_mw "ValueError.__init__" a) (by simp)).1
  refine ⟨hpin, ?_⟩
  match vs', r', q3 with
  | [x], .cons (b := u) rx .nil, q3 =>
    obtain ⟨q4, q5⟩ := q3
    refine mw_call (X := ncx CX P w K mg base N F fI A outer s H E) S.ox I3 q4 hpin (by show 1 ≤ sizeLine; rw [sizeLine_eq]; omega) fun s4 I4 => ?_
    refine wpAt_of_wpAny ?_
    have J : Inv (ncx CX P w K mg base N F fI A outer s H E) [] (startF N vs [none]) H1 s4 := I4.pins_of fun p hp => by cases hp
    refine wpAny_mono (hrest.run [] s4 (startF N vs [none]) H1 _ J q5) (fun fl s' hs => ?_) fun e s' hs => hs
    have fin : ∀ {σ' : L2.St} {H' : Hp} {v : V} {u : Value}, Inv (ncx CX P w K mg base N F fI A outer s H E) [] σ' H' s' → L2.RelV v u → Q v H' → CE outer P w H s Q u s' :=
      fun {σ' H' v u} J rv q => ⟨v, H', J.os, J.bare, J.base, J.hok, rv, q⟩
    cases fl with
    | ret u =>
      obtain ⟨v, σ', H', J, rv, q⟩ := hs
      exact fin J rv q
    | next =>
      obtain ⟨σ', H', J, q⟩ := hs
      exact fin (v := V.non) (u := Value.none) J rfl q
    | brk =>
      obtain ⟨_, _, _, q⟩ := hs
      exact False.elim q
    | cont =>
      obtain ⟨_, _, _, q⟩ := hs
      exact False.elim q
end
end DL
set_option Elab.async false
set_option maxRecDepth 100000
set_option maxHeartbeats 4000000
set_option linter.unusedVariables false
/-! data-level layer, part h: errors: made, raised, caught; defs called while one is handled -/
namespace DL
open PySem PySem.Spec PyProof.Rows L2 NdefX

/-! ### a def that is called while the error at p is handled -/
structure FnP (P : Program) (w : World) (K : PySem.W.Frag) (mg : Str → Option Value) (base : Heap) (k : Nat) (f : Addr) (fd : FuncData) (ps : List Str) (p : Addr × Obj) (sp : Sp) : Prop where
  len : ∀ vs H Q E, sp vs H Q E → vs.length = ps.length
  run : ∀ (A : Around) (outer : List Env) (s : Shared) (H : Hp) (args : Args) (us : List Value) (vs : List V) (Q : VK) (E : XK), L2H.RoomH k A → L2H.Hot1 A p → L2H.PinOk outer H s p →
    Env0 P w K mg base A outer s H → BindsTo s fd args (ps.zip us) → Vals vs us → sp vs H Q E → codeAny (model P w) A (.call (.ref f) args) (CR (L2N.CX P w) outer P w H s Q E) s
/-- the body's context -/
abbrev cxP (P : Program) (w : World) (K : PySem.W.Frag) (mg : Str → Option Value) (base : Heap) (N : List Str) (qual : Str) (scope : Scope) (f : Addr) (cd : Value) (A : Around) (outer : List Env) (s : Shared) (H : Hp) (E : XK) (p : Addr × Obj) : Cx :=
  L2H.cxH (L2N.CX P w) P w K mg base N qual scope f cd A outer s H E p
section
variable {P : Program} {w : World} {K : PySem.W.Frag} {mg : Str → Option Value} {base : Heap} {x qual : Str} {params : Arguments} {body : List Stmt} {scope : Scope} {dvs : List V} {kws : List (Str × V)} {f : Addr} {fd : FuncData}
theorem fnp_of {N ps : List Str} {k : Nat} {p : Addr × Obj} {sp : Sp} (F : FunD K x qual params body scope dvs kws f fd) (S : FnScope N ps scope) (len : ∀ vs H Q E, sp vs H Q E → vs.length = ps.length)
    (hbody : ∀ (cdv : Value) (A : Around) (outer : List Env) (s : Shared) (H : Hp) (vs : List V) (Q : VK) (E : XK), L2H.Hot1 A p → L2H.RoomH k (A.deeper (envOfC qual scope s.heap.objs.size f cdv)) → sp vs H Q E →
      ∃ t, PSs (cxP P w K mg base N qual scope f cdv A outer s H E p) body t ∧ t { nx := fun _ H' => Q .non H', rt := Q } (L2.start N vs) H) :
    FnP P w K mg base (k + 1) f fd ps p sp := by
  obtain ⟨oc, od, dV, kV, doc, pm, an, cdv, ct, osl, rfl, lk, hcd, _, _⟩ := F.ex
  refine ⟨len, fun A outer s H args us vs Q E hroom hh hpp e00 hbb rr hs0 => ?_⟩
  have hll := len _ _ _ _ hs0
  have inK : K.In s.heap := e00.mod.kin.keeps fun b o e => (e00.bs b o e).1
  have noL : s.heap.NoLimit := e00.mod.nolimit.keeps fun b o e => (e00.bs b o e).1
  refine codeAny_call_function hroom.depth (inK _ _ lk) rfl S.co S.gen rfl (PySem.W.codeRec_of inK hcd) (hbb _ _ _ _ ?_)
  refine wpAny_newFunctionEnv_cells S.kind (fun y hy => ?_) fun env0 he0 s1 xc => ?_
  · have hy1 : y.1 ∈ ps := (List.of_mem_zip (show (y.1, y.2) ∈ ps.zip us from hy)).1
    rcases S.par y.1 hy1 with q | q
    · exact .inl q
    · exact .inr ⟨q, PySem.W.cellsFrom_some _ _ _ (.inl q)⟩
  · subst he0
    refine ⟨noL.keeps xc.toInCall.keep, codeAny_func ?_⟩
    obtain ⟨t, ht, hq⟩ := hbody cdv A outer s H vs Q E hh (hroom.deeper _) hs0
    have I := L2H.inv_startH (CX := L2N.CX P w) (w := w) (E := E) S hpp e00 hll rr xc
    refine wpAny_mono (ht.run [] s1 (L2.start N vs) H _ I hq) (fun fl s' hs => ?_) fun e s' hs => hs
    cases fl with
    | ret u => obtain ⟨v, σ', H', J, rv, q⟩ := hs; exact ⟨v, H', J.os, J.bare, J.base, J.hok, rv, q⟩
    | next => obtain ⟨σ', H', J, q⟩ := hs; exact ⟨V.non, H', J.os, J.bare, J.base, J.hok, rfl, q⟩
    | brk => obtain ⟨_, _, _, q⟩ := hs; exact q.elim
    | cont => obtain ⟨_, _, _, q⟩ := hs; exact q.elim
theorem fn_bodyP {N ps : List Str} {k : Nat} {p : Addr × Obj} {W : DW1} (F : FunD K x qual params body scope dvs kws f fd) (S : FnScope N ps scope) (hlen : ∀ ds Q E, W ds Q E → ds.length = ps.length)
    (hb : ∀ (cdv : Value) (A : Around) (outer : List Env) (s : Shared) (H : Hp) (E : XK) (so : Option Addr) (B : Hp), L2H.Hot1 A p → L2H.RoomH k (A.deeper (envOfC qual scope s.heap.objs.size f cdv)) →
      L2N.Takes (cxP P w K mg base N qual scope f cdv A outer s H E p) (fun cls d _ H => E cls d H) →
      ∃ wb, DSs ⟨K, so, B, H, fun _ => E⟩ (cxP P w K mg base N qual scope f cdv A outer s H E p) body wb ∧ ∀ ds Q E', W ds Q E' → wb (bodyEnds Q) (entry N.length ds) (fun e _ => E' e)) :
    FnP P w K mg base (k + 1) f fd ps p (spD K ps.length W) := by
  refine fnp_of F S (fun vs H Q E h => ?_) (fun cdv A outer s H vs Q E hh hr h => ?_)
  · obtain ⟨so, B, ds, ln, _, _, hv, _⟩ := h
    exact hv.len.trans ln
  · obtain ⟨so, B, ds, ln, e, st, hv, hW⟩ := h
    obtain ⟨wb, d, hw⟩ := hb cdv A outer s H E so B hh hr (L2N.takes_of rfl rfl rfl rfl)
    exact ⟨_, d.ps, entry_reads e st hv d (hw ds _ _ hW) (fun x h => h) (fun e h => h)⟩
end
/-- such a def, called by its name -/
structure FDP (P : Program) (w : World) (K : PySem.W.Frag) (mg : Str → Option Value) (base : Heap) (k : Nat) (x : Str) (n : Nat) (p : Addr × Obj) (W : DW1) : Prop where
  mono : MonoW W
  ex : ∃ (f : Addr) (fd : FuncData) (ps : List Str), ps.length = n ∧ mg x = some (.ref f) ∧ PySem.W.keepIn K (.ref f) = true ∧ FnP P w K mg base k f fd ps p (spD K n W) ∧ Binds K fd ps []
section
variable {P : Program} {w : World} {K : PySem.W.Frag} {mg : Str → Option Value} {base : Heap} {x qual : Str} {params : Arguments} {body : List Stmt} {scope : Scope} {f : Addr} {fd : FuncData}
theorem fdp_ok {N ps : List Str} {k : Nat} {p : Addr × Obj} {W : DW1} (hW : MonoW W) (F : FunD K x qual params body scope [] [] f fd) (S : FnScope N ps scope) (hm : mg x = some (.ref f)) (hlen : ∀ ds Q E, W ds Q E → ds.length = ps.length)
    (hbd : ∀ (kV doc pm : Value) (an : Option Addr) (cdv ct : Value) (us : List Value), us.length = ps.length → bindArgs (PySem.W.fnOf x qual params body scope .none kV doc pm an cdv ct) ⟨us, []⟩ = pure (ps.zip us))
    (hb : ∀ (cdv : Value) (A : Around) (outer : List Env) (s : Shared) (H : Hp) (E : XK) (so : Option Addr) (B : Hp), L2H.Hot1 A p → L2H.RoomH k (A.deeper (envOfC qual scope s.heap.objs.size f cdv)) →
      L2N.Takes (cxP P w K mg base N qual scope f cdv A outer s H E p) (fun cls d _ H => E cls d H) →
      ∃ wb, DSs ⟨K, so, B, H, fun _ => E⟩ (cxP P w K mg base N qual scope f cdv A outer s H E p) body wb ∧ ∀ ds Q E', W ds Q E' → wb (bodyEnds Q) (entry N.length ds) (fun e _ => E' e)) :
    FDP P w K mg base (k + 1) x ps.length p W := ⟨hW, f, fd, ps, rfl, hm, F.kp, fn_bodyP F S hlen hb, F.bindsN hbd⟩
end
section
variable {X : Cx} {k : Nat} {f : Addr} {fd : FuncData} {ps : List Str} {sp : Sp} {E : St → XK} {x : Str} {q pos : Pos} {e : Expr} {es : List Expr} {t : TA} {p : Addr × Obj}
theorem pe_callP (F : FnP X.prog X.w X.K X.mg X.base k f fd ps p sp) (hr : L2H.RoomH k X.A) (hh : L2H.Hot1 X.A p) (hp : p ∈ X.pn) (hg : Gl X x) (hm : X.mg x = some (.ref f)) (hk : PySem.W.keepIn X.K (.ref f) = true) (hb : Binds X.K fd ps []) (hx : ∀ σ, PassesAt (L2N.CX X.prog X.w) X σ (E σ))
    (ha : PA X (e :: es) t) (hdb : (x == ("__debug__" : Str)) = false := by decide) (he : starEach (e :: es) X.env = (false, eval e X.env) :: starEach es X.env := by rfl) (hpl : (backTo pos (starEach es X.env)).any (·.1) = false := by rfl) :
    PE X (.Call (.Name x q) (e :: es) [] pos) (tCallS sp E t) := by
  refine ⟨fun pins s σ H Q I h => wpAny_Call_Name_kw (ld_glob I hg hm ?_ hdb)⟩
  refine PySem.W.callWith_K (h₀ := X.base) I.ok.mod.kin hk (thn (ha.run pos pins s σ H _ I h) fun us s1 ⟨vs, H1, I1, r, q⟩ => ⟨I1.kIn, ?_⟩) he hpl
  have hlu : us.length = ps.length := by rw [← r.length]; exact F.len _ _ _ _ q
  have b := hb s1 us I1.kIn (by rw [List.append_nil]; exact hlu)
  rw [List.append_nil] at b
  have P1 := I1.pin p (List.mem_append_left _ hp)
  refine wpAny_call (codeAny_mono (F.run X.A X.stack s1 H1 ⟨us, []⟩ us vs Q (E σ) hr hh ⟨P1.1, P1.2.1, fun hm => ?_, P1.2.2.2.2⟩ I1.env0 b r q) fun r s' hq => ?_)
  · rcases List.mem_cons.mp (I1.stkSub p.1 hm) with z | z
    · exact P1.2.2.1 z
    · exact P1.2.2.2.1 z
  · cases r with
    | error e => exact hx σ pins H1 s1 e s' I1 hq
    | ok fl => cases fl with
      | ret u => exact I1.after hq
      | next => exact hq.elim
      | brk => exact hq.elim
      | cont => exact hq.elim
end
section
variable {G : Gx} {X : Cx} {e : Expr} {es : List Expr} {wr : DT (List Sl)} {p pos : Pos} {x : Str} {k n : Nat} {W : DW1} {pn : Addr × Obj}
theorem de_callP (F : FDP X.prog X.w X.K X.mg X.base k x n pn W) (hr : L2H.RoomH k X.A) (hh : L2H.Hot1 X.A pn) (hpn : pn ∈ X.pn) (hK : G.K = X.K) (tk : L2N.Takes X fun cls d σ H => G.EX σ cls d H) (ha : DA G X (e :: es) wr) (hn : es.length + 1 = n := by rfl) (hg : Gl X x := by rfl)
    (hdb : (x == ("__debug__" : Str)) = false := by decide) (he : starEach (e :: es) X.env = (false, eval e X.env) :: starEach es X.env := by rfl) (hpl : (backTo pos (starEach es X.env)).any (·.1) = false := by rfl) : DE G X (.Call (.Name x p) (e :: es) [] pos) (wCall W wr) := by
  obtain ⟨hW, f, fd, ps, hp, hm, hk, hF, hB⟩ := F
  refine ⟨wCall_mono hW ha.mono, pe_weak (pe_callP (E := fun σ => G.EX σ) hF hr hh hpn hg hm hk hB (fun σ => L2N.passAt tk σ) ha.pa hdb he hpl) fun σ H Q h => ?_⟩
  obtain ⟨ρ, τ, hA, hw⟩ := h
  refine ⟨ρ, τ, hA, ha.mono (fun xs ρ1 k nxs ln l vs H1 lv A1 => ?_) (fun _ _ e => e) hw⟩
  obtain ⟨B, h1, h2⟩ := A1.stills lv nxs
  rw [← hK]
  exact call_ends hW A1.len (by unfold datas; rw [List.length_map, ln]; exact hn) h2 h1 (hW (fun z q nz => q nz l) (fun _ q => q) k)
end

/-! ### an error is made -/
section
variable {X : Cx} {p pos : Pos} {e : Expr} {es : List Expr} {ta : TA}
theorem pmk_oexN {CX : CXT} {x : Str} {C fI : Addr} {k : Nat} {fd : FuncData} {ps : List Str} {sp : Sp} (T : OexC X.K C) (iC : PySem.W.findIn X.K (.ref C) "__init__" = some (some (.ref fI))) (tI : PySem.W.typeIn X.K (.ref fI) = some (.type "function"))
    (F1 : FnOk X.prog X.w X.K X.mg X.base CX k fI fd ps sp) (hr : Room (k + 1) X.A) (hb : Binds X.K fd ps []) (hx : Passes CX X (fun _ _ _ => False)) (hg : Gl X x) (hm : X.mg x = some (.ref C)) (ha : PA X (e :: es) ta)
    (hdb : (x == ("__debug__" : Str)) = false := by decide) (he : starEach (e :: es) X.env = (false, eval e X.env) :: starEach es X.env := by rfl) (hpl : (backTo pos (starEach es X.env)).any (·.1) = false := by rfl) :
    L2N.PMk X (.Call (.Name x p) (e :: es) [] pos) (tMkO C sp [] ta) := by
  intro pins s σ H Q I h
  have old := pmk_oex (X := X) (CX := CX) (x := x) (p := p) (pos := pos) T iC tI F1 hr hb .nil hx hg hm ha hdb he hpl pins s σ H
  obtain ⟨nm, q, N, bs, bm, sn, sub, ab, col, dd, k0, k1, k2, k3, k5, hC, hbm⟩ := T.cls
  refine wpAny_Call_Name_kw (ld_glob I hg hm ?_ hdb)
  refine PySem.W.callWith_K (h₀ := X.base) I.ok.mod.kin T.kC (thn (ha.run pos pins s σ H _ I h) fun us s1 ⟨vs, H1, I1, r1, hz, q1⟩ => ⟨I1.kIn, ?_⟩) he hpl
  show wpAny _ _ (call (.ref C) us) _ _ _
  obtain ⟨h0, g0, d0, t0, o0⟩ := s1
  have e1 : h0.objs.size ≤ h0.objs.size + 1 := Nat.le_succ _
  have q2 := q1 (h0.objs.size + 1) (I1.hok.fresh e1)
  rw [List.append_nil] at q2
  have kp2 : ∀ b o, h0.get? b = some o → ((h0.push (PySem.W.kdv_tup us)).push (PySem.HandSPX.excO C h0.objs.size)).get? b = some o := fun b o e => Heap.get?_push_of_some _ (Heap.get?_push_of_some _ e)
  have at2 : ((h0.push (PySem.W.kdv_tup us)).push (PySem.HandSPX.excO C h0.objs.size)).get? (h0.objs.size + 1) = some (PySem.HandSPX.excO C h0.objs.size) := by heap_get
  have I2 := I1.laid (t' := t0) (a := h0.objs.size + 1) (o := exo (h0.objs.size + 1) C none) (h' := (h0.push (PySem.W.kdv_tup us)).push (PySem.HandSPX.excO C h0.objs.size)) kp2 e1 (exo_ok at2)
  have rr2 : Vals (V.ref (h0.objs.size + 1) :: vs) (Value.ref (h0.objs.size + 1) :: us) := .cons rfl r1
  have ll : (Value.ref (h0.objs.size + 1) :: us ++ []).length = ps.length := by
    rw [List.append_nil, ← rr2.length]
    exact F1.len _ _ _ _ q2
  have ul : us.length ≤ sizeLine := by
    rw [← Paired.length r1, sizeLine_eq]
    omega
  have b2 := hb _ (Value.ref (h0.objs.size + 1) :: us) I2.kIn ll
  rw [List.append_nil] at b2
  refine wpAny_call (PySem.HandSPX.call_own F.excBase_ValueError (fun Y => PySem.HandSPX.refsVE_contains Y bm hbm) (I1.kIn _ _ hC) (PySem.W.looks_findIn I1.kIn iC) (fun self => PySem.W.bind_fn I1.kIn self tI) ul
    (codeAny_mono (F1.run _ X.stack _ _ ⟨Value.ref (h0.objs.size + 1) :: us, []⟩ _ _ _ (fun _ _ _ => False) (hr.make C us []) (I2.env0.make C us []) b2 rr2 q2) fun r s' hq' => ?_))
  cases r with
  | error er => exact hx pins σ _ _ er s' I2 hq'
  | ok fl =>
    cases fl with
    | ret u =>
      obtain ⟨v, H2, os2, bare2, un2, hok2, rv, ev, d, fs, ea, ed, hd1, q3⟩ := hq'
      subst ev
      obtain ⟨h2, g2, d2, t2, os'⟩ := s'
      obtain ⟨tx, G, J, kG, ge, hoe, na⟩ := mk_end0 (d2 := d2) (t2 := t2) I1 e1 kp2 un2 hok2 os2 bare2 ea ed hd1
      exact ⟨rv, h0.objs.size + 1, _, _, ⟨G, g2, d2, t2, os'⟩, _, .ref C, some d, rfl, J, kG, ge, hoe, ⟨rfl, rfl, fun vs hv => by cases hv; rfl⟩, rfl, rfl, na, rfl, bare2, raises_own T.exC T.tyC, q3⟩
    | next => exact hq'.elim
    | brk => exact hq'.elim
    | cont => exact hq'.elim
end
/-- a value that an f-string takes -/
def OkA (v : V) : Prop := (∃ z : Str, v = .str z ∧ z.length ≤ 100000) ∨ ∃ i : Int, v = .int i ∧ i.natAbs.log2 < 1920
def OkAD : D → Prop
  | .str z => z.length ≤ 100000
  | .int i => i.natAbs.log2 < 1920
  | _ => False
theorem OkAD.v {K : PySem.W.Frag} {so : Option Addr} {B : Hp} {v : V} {d : D} (h : Rp K so B v d) (k : OkAD d) : OkA v := by
  cases d <;> first
    | exact k.elim
    | (cases h; exact .inl ⟨_, rfl, k⟩)
    | (cases h; exact .inr ⟨_, rfl, k⟩)
/-- the promise of an error's __init__: the field f gets the value -/
def spInit (C : Addr) (f : Str) : Sp := fun vs H Q _ => ∃ a v, vs = [.ref a, v] ∧ H a = some (exo a C none) ∧ OkA v ∧ ∀ dx, H dx = none → dx ≠ a → Q .non (upd (upd H dx (exd dx [(f, v)])) a (exo a C (some dx)))
/-- a class of errors whose __init__ takes its field's value -/
structure ErC (P : Program) (w : World) (K : PySem.W.Frag) (mg : Str → Option Value) (base : Heap) (c : Str) : Prop where
  hm : mg c = some (.ref (He.ga K c))
  ox : OexC K (He.ga K c)
  ini : ∃ fI fd ps, PySem.W.findIn K (.ref (He.ga K c)) "__init__" = some (some (.ref fI)) ∧ PySem.W.typeIn K (.ref fI) = some (.type "function") ∧ FnOk P w K mg base (L2N.CX P w) 1 fI fd ps (spInit (He.ga K c) (fieldOf c)) ∧ Binds K fd ps []
/-- raise c(e) -/
def wRaise (c : Str) (w : DT Sl) : DS := fun _ ρ E => w ρ (fun x ρ1 => OkAD x.dat ∧ E ⟨c, some x.dat⟩ ρ1) E
section
variable {G : Gx} {X : Cx} {e : Expr} {we : DT Sl} {p pos pos' : Pos} {c : Str}
theorem ds_raise (T : ErC X.prog X.w X.K X.mg X.base c) (hc : X.calm = true) (hr : Room 2 X.A) (hK : G.K = X.K) (tk : L2N.Takes X fun cls d σ H => G.EX σ cls d H) (he : DE G X e we) (hg : Gl X c := by rfl)
    (hdb : (c == ("__debug__" : Str)) = false := by decide) (hst : starEach [e] X.env = (false, eval e X.env) :: starEach [] X.env := by rfl) :
    DSt G X (.Raise (some (.Call (.Name c p) [e] [] pos)) none pos') (wRaise c we) := by
  obtain ⟨fI, fd, ps, h1, h2, h3, h4⟩ := T.ini
  refine ⟨fun ρ N N' E E' h _ hE => he.mono (fun x ρ1 k => ⟨k.1, hE _ _ k.2⟩) hE h, ps_weak (L2N.ps_raise hc tk (pmk_oexN (CX := L2N.CX X.prog X.w) T.ox h1 h2 h3 hr h4 (L2N.passes_call tk fun _ _ _ _ z => z.elim) hg T.hm (pa_cons he.pe pa_nil hst) hdb hst rfl)) fun D σ H h => ?_⟩
  obtain ⟨ρ, τ, hA, hw⟩ := h
  refine ⟨ρ, τ, hA, he.mono (fun x ρ1 k nx l v H1 A1 => ⟨by show 1 ≤ 1000; decide, fun a ha => ?_⟩) (fun _ _ e => e) hw⟩
  obtain ⟨B, q1, q2⟩ := A1.still nx
  refine ⟨a, v, rfl, upd_same, k.1.v q1, fun dx hdx hda => ⟨rfl, dx, [(fieldOf c, v)], upd_same, ?_, ?_, ?_⟩⟩
  · rw [upd_ne hda, upd_same]
  · rw [upd_ne hda] at hdx; exact hdx
  · have hdx1 : H1 dx = none := by rw [upd_ne hda] at hdx; exact hdx
    have e1 : upd (del (upd (upd (upd H1 a (exo a (He.ga X.K c) none)) dx (exd dx [(fieldOf c, v)])) a (exo a (He.ga X.K c) (some dx))) a) dx (.xd [(fieldOf c, v)]) = upd H1 dx (.xd [(fieldOf c, v)]) := by
      funext b
      by_cases hb : b = dx
      · rw [hb, upd_same, upd_same]
      · rw [upd_ne hb, upd_ne hb]
        by_cases hba : b = a
        · rw [hba, del_same, ha]
        · rw [del_ne hba, upd_ne hba, upd_ne hb, upd_ne hba]
    rw [e1]
    refine k.2 σ _ (some dx) _ _ A1.len (q2.newB (o := .xd [(fieldOf c, v)]) hdx1) ⟨by rw [hK], dx, v, rfl, upd_same, q1.mono (same_upd (q2.free hdx1))⟩
end

/-! ### .. and caught -/
theorem Rel.ex {K : PySem.W.Frag} {so : Option Addr} {B0 H0 : Hp} {E E' : L2.St → XK} {R : Roots} {H B : Hp} (h : Rel ⟨K, so, B0, H0, E⟩ R H B) : Rel ⟨K, so, B0, H0, E'⟩ R H B := ⟨h.lo, h.hi, h.fr, h.nw, h.rep, h.nd, h.ap, h.st⟩
/-- G with another wish about errors -/
abbrev Gx.wish (G : Gx) (E : L2.St → XK) : Gx := ⟨G.K, G.so, G.B0, G.H0, E⟩
theorem Rel.wish {G : Gx} {E : L2.St → XK} {R : Roots} {H B : Hp} (h : Rel G R H B) : Rel (G.wish E) R H B := Rel.ex (E := G.EX) h
theorem Rel.unwish {G : Gx} {E : L2.St → XK} {R : Roots} {H B : Hp} (h : Rel (G.wish E) R H B) : Rel G R H B := Rel.ex (E' := G.EX) h
theorem At.wish {G : Gx} {E : L2.St → XK} {σ : St} {ρ : DEnv} {τ : Roots} {H : Hp} (h : At G σ ρ τ H) : At (G.wish E) σ ρ τ H := let ⟨B, r⟩ := h.rel; ⟨h.len, B, r.wish⟩
theorem At.unwish {G : Gx} {E : L2.St → XK} {σ : St} {ρ : DEnv} {τ : Roots} {H : Hp} (h : At (G.wish E) σ ρ τ H) : At G σ ρ τ H := let ⟨B, r⟩ := h.rel; ⟨h.len, B, r.unwish⟩
def DEn.un (N : DEn) (i : Nat) : DEn := ⟨fun ρ => N.nx (ρ.set i .un), N.rt, fun ρ => N.bk (ρ.set i .un), fun ρ => N.ct (ρ.set i .un)⟩
def noE : EC := fun _ _ => False
/-- try: body; except ..: suite: the errors of the classes that ca tells -/
def wTry (ca : Str → Option Bool) (i : Nat) (wb : DS) (ws : Addr → Obj → DS) : DS := fun D ρ E => wb D ρ fun e ρ1 => ρ1.length = ρ.length ∧ match ca e.c with
  | some true => ∀ a oe, PXN.CtxN oe → (∃ vs, oe.data = .fields vs) → ws a oe (D.un i) (ρ1.set i (.sh (.exc e.c e.a a oe))) noE
  | some false => E e ρ1
  | none => False
theorem At.drop_slot {G : Gx} {σ : St} {ρ : DEnv} {τ : Roots} {H : Hp} (i : Nat) (h : At G σ ρ τ H) : At G (σ.set i none) (ρ.set i .un) τ H := by
  refine ⟨by rw [List.length_set, List.length_set]; exact h.len, ?_⟩
  obtain ⟨B, hr⟩ := h.rel
  by_cases hi : i < ρ.length
  · obtain ⟨L, R, u, h1, h2, h3⟩ := zip_split h.len (List.getElem?_eq_getElem hi)
    have e4 : (σ.set i none).zip (ρ.set i .un) = L ++ (none, Sl.un) :: R := by
      rw [set_zip]
      have hl : L.length = i := by
        have key : ∀ (σ : St) (ρ : DEnv) (i : Nat) (x : Sl), ρ.length = σ.length → ρ[i]? = some x → ∀ (L R : Roots) (v : Option V), (∀ y, σ.zip (ρ.set i y) = L ++ (v, y) :: R) → L.length = i := by
          intro σ ρ i x l e L R v hy
          have a1 : (σ.zip (ρ.set i .un))[L.length]? = some (v, .un) := by rw [hy]; simp
          have a2 : (σ.zip (ρ.set i (.sh .non)))[L.length]? = some (v, .sh .non) := by rw [hy]; simp
          by_cases q : L.length = i
          · exact q
          · rw [List.getElem?_zip_eq_some] at a1 a2
            have c1 := a1.2
            have c2 := a2.2
            rw [List.getElem?_set_ne (Ne.symm q)] at c1 c2
            rw [c1] at c2
            cases c2
        exact key σ ρ i _ h.len (List.getElem?_eq_getElem hi) L R u h3
      rw [h2, List.set_append_right _ _ (by omega), hl, Nat.sub_self]
      rfl
    refine ⟨B, ?_⟩
    rw [e4]
    rw [h2] at hr
    refine ⟨hr.lo, hr.hi, hr.fr, hr.nw, fun r hm => ?_, ?_, fun q hq => ?_, hr.st⟩
    · simp only [List.mem_append, List.mem_cons] at hm
      rcases hm with (hm | rfl | hm) | hm
      · exact hr.rep r (by simp [hm])
      · trivial
      · exact hr.rep r (by simp [hm])
      · exact hr.rep r (by simp [hm])
    · have := hr.nd
      rw [feet_append, feet_split] at this ⊢
      refine this.sublist (List.Sublist.append (List.Sublist.append (List.Sublist.refl _) ?_) (List.Sublist.refl _))
      show (([] : List Addr) ++ feet R).Sublist _
      exact List.sublist_append_right _ _
    · refine hr.ap q ?_
      rw [feet_append, feet_split] at hq ⊢
      simp only [List.mem_append] at hq ⊢
      rcases hq with (hq | hq | hq) | hq
      · exact .inl (.inl hq)
      · cases hq
      · exact .inl (.inr (.inr hq))
      · exact .inr hq
  · have e1 : ρ.set i .un = ρ := List.set_eq_of_length_le (by omega)
    have e2 : σ.set i none = σ := List.set_eq_of_length_le (by have := h.len; omega)
    rw [e1, e2]
    exact ⟨B, hr⟩
section
variable {G : Gx} {X : Cx} {body suite : List Stmt} {b0 : Stmt} {wb : DS} {ws : Addr → Obj → DS} {np pos pos' : Pos} {n c : Str} {ca : Str → Option Bool}
theorem ds_try (i : Nat) (hs : X.stack = X.env :: X.outer) (hf : X.env.frame = some X.env.locals) (hN : X.N.Nodup) (hc : X.mg c = some (.ref (He.ga X.K c))) (hca : ∀ x b, ca x = some b → PySem.W.exmOne X.K (.ref (He.ga X.K x)) (.ref (He.ga X.K c)) = some b) (hK : G.K = X.K)
    (tk : L2N.Takes X fun cls d σ H => G.EX σ cls d H)
    (hb : ∀ (E : L2.St → XK) (pn : List (Addr × Obj)) (xe : Value → Shared → Prop), L2N.Takes (X.tr pn xe) (fun cls d σ H => E σ cls d H) → DSs (G.wish E) (X.tr pn xe) body wb)
    (hsu : ∀ (a : Addr) (oe : Obj) (pn : List (Addr × Obj)), PXN.CtxN oe → (∃ vs, oe.data = .fields vs) → DSs (G.wish fun _ _ _ _ => False) (X.suite a ((a, oe) :: pn)) (b0 :: suite) (ws a oe))
    (hi : X.N[i]? = some n := by rfl) (hln : X.env.kindOf n = some .local := by rfl) (hg : Gl X c := by rfl) (hdb : (c == ("__debug__" : Str)) = false := by decide) :
    DSt G X (.Try body [.ExceptHandler (some (.Name c np)) (some n) (b0 :: suite) pos'] [] [] pos) (wTry ca i wb ws) := by
  have hwb : MonoS wb := (hb (fun _ _ _ _ => True) [] (fun _ _ => True) fun _ _ _ => trivial).mono
  have hws : ∀ a oe, PXN.CtxN oe → (∃ vs, oe.data = .fields vs) → MonoS (ws a oe) := fun a oe h1 h2 => (hsu a oe [] h1 h2).mono
  refine ⟨fun ρ D D' E E' h hd he => ?_, ps_weak (L2N.ps_try_as (c := .ref (He.ga X.K c)) (Wout := fun cls d σ H => G.EX σ cls d H) (tb := fun W => tS (G.wish fun σ cls d H => W cls d σ H) wb)
      (ts := fun a cls d D σ H => ∀ oe, L2N.Zn cls d oe → (∃ vs, oe.data = .fields vs) → tS (G.wish fun _ _ _ _ => False) (ws a oe) D σ H)
      hs hf hN hi hln ⟨hg, hdb, .inl hc⟩ tk (fun W pn xe tk' _ => (hb (fun σ cls d H => W cls d σ H) pn xe tk').ps) (fun a oe cls d pn hz hv => ⟨fun pins s σ H D I h => (hsu a oe pn hz.2.2 hv).ps.run pins s σ H D I (h oe hz hv)⟩)) fun D σ H h => ?_⟩
  · refine hwb h hd fun e ρ1 k => ⟨k.1, ?_⟩
    replace k := k.2
    split at k
    · rename_i hcc
      exact fun a oe c1 c2 => hws a oe c1 c2 (k a oe c1 c2) ⟨fun ρ k => hd.nx _ k, hd.rt, fun ρ k => hd.bk _ k, fun ρ k => hd.ct _ k⟩ (fun _ _ z => z)
    · exact he _ _ k
    · exact k.elim
  · obtain ⟨ρ, τ, hA, hw⟩ := h
    refine ⟨ρ, τ, hA.wish, hwb hw ⟨fun ρ' k l σ' H' A' => k l σ' H' A'.unwish, fun x ρ' k nx l v σ' H' A' => k nx l v σ' H' A'.unwish, fun ρ' k l σ' H' A' => k l σ' H' A'.unwish, fun ρ' k l σ' H' A' => k l σ' H' A'.unwish⟩ fun er ρ1 k σ1 cls d H1 B1 l1 r1 hx => ?_⟩
    have lenQ := k.1
    replace k := k.2
    split at k
    · rename_i hcc
      obtain ⟨hcl, hx2⟩ := hx
      refine ⟨true, ?_, fun _ a ha oe hz hv => ?_, fun z => by cases z⟩
      · rw [hcl]
        show PySem.W.exmOne X.K (.ref (He.ga G.K er.c)) _ = _
        rw [hK]
        exact hca _ _ hcc
      · have rp : Rp G.K G.so B1 (.ref a) (.exc er.c er.a a oe) := by
          rw [hcl] at hz
          cases hea : er.a with
          | none =>
            rw [hea] at hx2
            have hd : d = none := hx2
            subst hd
            exact .exn hz hv
          | some y =>
            rw [hea] at hx2
            obtain ⟨dd, v, hd, h1, h2⟩ := hx2
            subst hd
            exact .exa hz hv h1 h2
        have A1 : At (G.wish fun _ _ _ _ => False) (σ1.set i (some (.ref a))) (ρ1.set i (.sh (.exc er.c er.a a oe))) τ H1 := At.wish (At.store i (At.addSh l1 r1.unwish rp))
        refine ⟨_, τ, A1, hws a oe hz.2.2 hv (k a oe hz.2.2 hv) ⟨fun ρ' k l σ' H' A' => ?_, fun x ρ' k nx l v σ' H' A' => ?_, fun ρ' k l σ' H' A' => ?_, fun ρ' k l σ' H' A' => ?_⟩ (fun _ _ z => z.elim)⟩
        · exact k (by rw [List.length_set, l, List.length_set]; exact lenQ) _ H' (A'.unwish.drop_slot i)
        · exact k nx (by rw [l, List.length_set]; exact lenQ) v σ' H' A'.unwish
        · exact k (by rw [List.length_set, l, List.length_set]; exact lenQ) _ H' (A'.unwish.drop_slot i)
        · exact k (by rw [List.length_set, l, List.length_set]; exact lenQ) _ H' (A'.unwish.drop_slot i)
    · refine ⟨false, ?_, fun z => (by cases z), fun _ => ?_⟩
      · rw [hx.1]
        show PySem.W.exmOne X.K (.ref (He.ga G.K er.c)) _ = _
        rw [hK]
        exact hca _ _ (by assumption)
      · exact k σ1 cls d H1 B1 l1 r1.unwish hx
    · exact k.elim
end
end DL
set_option Elab.async false
set_option maxRecDepth 100000
set_option maxHeartbeats 4000000
set_option linter.unusedVariables false
/-! data-level layer, part i: errors' __init__ and fields, subscripts, + of all kinds, appends, unpacking, constants, calls by keywords -/
namespace DL
open PySem PySem.Spec PyProof.Rows L2 NdefX

/-! ### self.f = v behind super().__init__(..) -/
section
variable {X : Cx}
/-- the reading of an f-string over one value -/
theorem pe_fsA {y z : Str} {i j : Nat} {p q r pos : Pos} {te : TE} (he : PE X (.Name y p) te) : PE X (.JoinedStr [.FormattedValue (.Name y p) (-1) none q, .Constant (.str z) j r] pos) (fun σ H Q => tJs [tFmt te, tC (.str z)] Str.empty σ H fun out H1 => Q (.str out) H1) :=
  pe_joined (.cons (pe_fmt he) (.cons pe_str .nil))
theorem pe_fsB {y z : Str} {i j : Nat} {p q r pos : Pos} {te : TE} (he : PE X (.Name y p) te) : PE X (.JoinedStr [.Constant (.str z) j r, .FormattedValue (.Name y p) (-1) none q] pos) (fun σ H Q => tJs [tC (.str z), tFmt te] Str.empty σ H fun out H1 => Q (.str out) H1) :=
  pe_joined (.cons pe_str (.cons (pe_fmt he) .nil))
theorem pe_fsC {y z z2 : Str} {i j j2 : Nat} {p q r r2 pos : Pos} {te : TE} (he : PE X (.Name y p) te) : PE X (.JoinedStr [.Constant (.str z) j r, .FormattedValue (.Name y p) (-1) none q, .Constant (.str z2) j2 r2] pos) (fun σ H Q => tJs [tC (.str z), tFmt te, tC (.str z2)] Str.empty σ H fun out H1 => Q (.str out) H1) :=
  pe_joined (.cons pe_str (.cons (pe_fmt he) (.cons pe_str .nil)))
theorem str_len_app (x y : Str) : (x ++ y).length = x.length + y.length := Str.length_append x y
/-- te gives some text of a value that an f-string takes, at slot 1 -/
def FsRd (te : TE) : Prop := ∀ (σ : L2.St) (H : Hp) (v : V) (Q : VK), σ[1]? = some (some v) → OkA v → (∀ out, Q (.str out) H) → te σ H Q
theorem okA_len {v : V} (h : OkA v) {Q : V → Prop} (k : ∀ z : Str, z.length ≤ 100000 → Q (.str z)) : (∃ y : Str, v = .str y ∧ y.length ≤ sizeLine ∧ Q (.str y)) ∨ ∃ i : Int, v = .int i ∧ i.natAbs.log2 < 1920 ∧ Q (.str (toString i)) := by
  rcases h with ⟨z, e, hz⟩ | ⟨i, e, hi⟩
  · exact .inl ⟨z, e, by rw [sizeLine_eq]; omega, k z hz⟩
  · refine .inr ⟨i, e, hi, k _ ?_⟩
    have := PySem.int_text_length_le (a := i) (k := 1920) (by decide) hi
    rw [show (Str.ofString (toString i)).length = (toString i).length from by rw [Str.ofString_eq_toList]; simp only [Str.length, List.size_toArray, List.length_map, String.length_toList]]
    omega
theorem fsA {z : Str} (hz : z.length ≤ 1000) : FsRd (fun σ H Q => tJs [tFmt (tVar 1), tC (.str z)] Str.empty σ H fun out H1 => Q (.str out) H1) := fun σ H v Q hv ha k => by
  refine ⟨v, hv, okA_len ha (Q := fun x => ∃ y : Str, x = .str y ∧ (Str.empty ++ y).length ≤ sizeLine ∧ tJs [tC (.str z)] (Str.empty ++ y) σ H fun out H1 => Q (.str out) H1) fun y hy => ⟨y, rfl, ?_, z, rfl, ?_, k _⟩⟩
  · rw [str_len_app, sizeLine_eq]; show 0 + _ ≤ _; omega
  · rw [str_len_app, str_len_app, sizeLine_eq]; show 0 + _ + _ ≤ _; omega
theorem fsB {z : Str} (hz : z.length ≤ 1000) : FsRd (fun σ H Q => tJs [tC (.str z), tFmt (tVar 1)] Str.empty σ H fun out H1 => Q (.str out) H1) := fun σ H v Q hv ha k => by
  refine ⟨z, rfl, ?_, v, hv, okA_len ha (Q := fun x => ∃ y : Str, x = .str y ∧ (Str.empty ++ z ++ y).length ≤ sizeLine ∧ tJs [] (Str.empty ++ z ++ y) σ H fun out H1 => Q (.str out) H1) fun y hy => ⟨y, rfl, ?_, k _⟩⟩
  · rw [str_len_app, sizeLine_eq]; show 0 + _ ≤ _; omega
  · rw [str_len_app, str_len_app, sizeLine_eq]; show 0 + _ + _ ≤ _; omega
theorem fsC {z z2 : Str} (hz : z.length ≤ 1000) (hz2 : z2.length ≤ 1000) : FsRd (fun σ H Q => tJs [tC (.str z), tFmt (tVar 1), tC (.str z2)] Str.empty σ H fun out H1 => Q (.str out) H1) := fun σ H v Q hv ha k => by
  refine ⟨z, rfl, ?_, v, hv, okA_len ha (Q := fun x => ∃ y : Str, x = .str y ∧ (Str.empty ++ z ++ y).length ≤ sizeLine ∧ tJs [tC (.str z2)] (Str.empty ++ z ++ y) σ H fun out H1 => Q (.str out) H1) fun y hy => ⟨y, rfl, ?_, z2, rfl, ?_, k _⟩⟩
  · rw [str_len_app, sizeLine_eq]; show 0 + _ ≤ _; omega
  · rw [str_len_app, str_len_app, sizeLine_eq]; show 0 + _ + _ ≤ _; omega
  · rw [str_len_app, str_len_app, str_len_app, sizeLine_eq]; show 0 + _ + _ + _ ≤ _; omega
end
section
variable {P : Program} {w : World} {K : PySem.W.Frag} {mg : Str → Option Value} {base : Heap} {C fI : Addr} {F : NF} {doc pm ctv : Value} {CX : CXT}
theorem init_ok {y f : Str} {e : Expr} {te : TE} {p0 p1 p2 p3 p4 a1 a2 a3 a4 : Pos} (S : SupC P K C fI F doc pm ctv) (ms : mg "super" = none) (Sc : NScope [("self" : Str), y, "__class__"] [("self" : Str), y] ["__class__"] F.scope)
    (hbd : F.body = [.Expr (.Call (.Attribute (.Call (.Name "super" p0) [] [] p1) "__init__" p2) [e] [] p3) p4, .Assign [.Attribute (.Name "self" a1) f a2] (.Name y a3) a4])
    (hpe : ∀ X : Cx, X.N = [("self" : Str), y, "__class__"] → X.env.scope = F.scope → PE X e te) (hrd : FsRd te) (hno : PySem.W.findIn K (.ref C) f = some none)
    {ar : Arg} (har : (F.params.posonlyargs ++ F.params.args).head? = some ar) (harn : ar.arg = "self") (hks : F.scope.names.lookup ("super" : Str) = some .globalImplicit)
    (hst : ∀ env : Env, starEach [e] env = (false, eval e env) :: starEach [] env)
    (hev : ∀ env : Env, eval (.Call (.Attribute (.Call (.Name "super" p0) [] [] p1) "__init__" p2) [e] [] p3) env = (do
      let ov ← attributeBase (.Call (.Name "super" p0) [] [] p1) "__init__" env (eval (.Call (.Name "super" p0) [] [] p1) env)
      standAt p2.atName
      let (f, first) ← holding [ov] (getMethod ov "__init__" (pure false))
      callWith p3 f first (backTo p3 (starEach [e] env)) []))
    (hyd : (y == ("__debug__" : Str)) = false) (hyc : (y == ("__classdict__" : Str)) = false) :
    FnOk P w K mg base CX 1 fI (F.fd doc pm ctv) [("self" : Str), y] (spInit C f) := by
  have ls : F.scope.names.lookup ("self" : Str) = some .local := Sc.par _ (by simp)
  have ly : F.scope.names.lookup y = some .local := Sc.par _ (by simp)
  have lc : F.scope.names.lookup ("__class__" : Str) = some .free := Sc.frk _ (by simp)
  refine sup_ok (p5 := p4) S ms Sc hbd har (by rw [harn]; rfl) hks lc (by rw [harn]; exact ls) (fun vs H Q E h => ?_) hst (fun env => rfl) hev (fun A outer s H vs Q E hr h => ?_)
  · obtain ⟨a, v, rfl, _⟩ := h; rfl
  · obtain ⟨a, v, rfl, ha, hok, q⟩ := h
    refine ⟨te, _, a, hpe _ rfl rfl, pss_one (ps_ost (pe_var (i := 0) rfl (.inl ls)) (pe_var (i := 1) rfl (.inl ly) hyd hyc) rfl), rfl, ha, hrd _ _ v _ rfl hok fun out => ⟨ha, v, rfl, .ref a, rfl, a, C, rfl, S.ox, hno, .inl ⟨ha, fun dx h1 h2 => q dx h1 h2⟩⟩⟩
end

/-! ### an error's field -/
/-- what the written part says of an error's class, for its field to be read -/
def XfK (K : PySem.W.Frag) (c : Str) : Prop := XfC K (He.ga K c) ∧ PySem.W.findIn K (.ref (He.ga K c)) (fieldOf c) = some none
/-- e.f, e an error of a class that ok tells -/
def wXf (ok : Str → Bool) (pn : List (Addr × Obj)) (f : Str) (we : DT Sl) : DT Sl := fun ρ Q E => we ρ (fun x ρ1 => match x.dat with
  | .exc c (some a) p oe => ok c = true ∧ fieldOf c = f ∧ (p, oe) ∈ pn ∧ Q (.sh a) ρ1
  | _ => False) E
theorem wXf_mono {ok : Str → Bool} {pn : List (Addr × Obj)} {f : Str} {we : DT Sl} (h : Mono we) : Mono (wXf ok pn f we) := fun _ _ _ _ _ hq he q => h (fun x ρ1 k => by
  split at k
  · exact ⟨k.1, k.2.1, k.2.2.1, hq _ _ k.2.2.2⟩
  · exact k.elim) he q
section
variable {G : Gx} {X : Cx} {e a b : Expr} {we wa wb : DT Sl} {pos p : Pos} {f : Str}
theorem de_xf (ok : Str → Bool) (hok : ∀ c, ok c = true → XfK X.K c) (hK : G.K = X.K) (he : DE G X e we) (hb : attributeBase e f X.env (eval e X.env) = eval e X.env := by rfl) : DE G X (.Attribute e f pos) (wXf ok X.pn f we) := by
  refine ⟨wXf_mono he.mono, ⟨fun pins s σ H Q I h => attr_of hb ?_⟩⟩
  obtain ⟨ρ, τ, hA, hw⟩ := h
  refine thn (he.pe.run pins s σ H (fun v H1 => ∃ y dd c C oe a, v = .ref y ∧ C = He.ga X.K c ∧ ok c = true ∧ fieldOf c = f ∧ (y, oe) ∈ X.pn ∧ L2N.Zn (.ref C) (some dd) oe ∧ (∃ vs, oe.data = .fields vs) ∧ H1 dd = some (.xd [(f, a)]) ∧ Q a H1) I ⟨ρ, τ, hA, he.mono (fun x ρ1 k nx l v H1 A1 => ?_) (fun _ _ e => e) hw⟩) fun u s1 hh => ?_
  · obtain ⟨B, h1, h2⟩ := A1.still nx
    split at k
    · rename_i c a y oe ex
      rw [ex] at h1
      cases h1 with
      | @exa _ dd _ _ v _ hz hf hd hv =>
        refine ⟨y, dd, c, _, oe, v, rfl, rfl, k.1, k.2.1, k.2.2.1, by rw [← hK]; exact hz, hf, by rw [← k.2.1]; exact h2.hi _ _ hd, k.2.2.2 (fun z => by cases z) l v H1 (At.addSh A1.len h2 hv)⟩
    · exact k.elim
  · obtain ⟨x, H1, I1, rx, y, dd, c, C, oe, a, ex, eC, k1, k2, hp, hz, ⟨vs, hd⟩, hdd, q⟩ := hh
    subst ex
    obtain rfl : u = Value.ref y := rx
    have T := hok c k1
    rw [XfK, ← eC, k2] at T
    have hx : ObjOk X.prog X.w H1 s1.heap dd (.xd [(f, a)]) := I1.hok dd _ hdd
    obtain ⟨mA, hns, hr⟩ := hx
    obtain ⟨od, ho, hl⟩ := lookIn_ns hns
    obtain ⟨u, hu, ru⟩ := RelO.some_of (v := a) (o := mA f) (by have := hr f; simpa using this)
    have J : PySem.W.InstAt s1.heap y oe C (some od) := ⟨(I1.pin (y, oe) (List.mem_append_left _ hp)).1, hz.1, by unfold PySem.W.notCls; rw [hd] <;> rfl, by rw [hz.2.1]; exact ho⟩
    exact HandSPX.exc_get I1.kIn J T.1.ga T.1.gg T.1.exC (PySem.W.findObj_own T.1.hdC T.2 rfl (by rw [hl, hu])) (handed_of ru) ⟨a, H1, I1.tok _, ru, q⟩

/-! ### subscripts -/
def atD (ds : List D) (i : Int) : Option D := atI ds i
def roIx : RO2 := fun d e Q => match e with
  | .int i => (match d with
    | .lst ds => ∃ x, atD ds i = some x ∧ Q (.sh x)
    | .tup ds => ∃ x, atD ds i = some x ∧ Q (.sh x)
    | .scr ns => ∃ x, atI ns i = some x ∧ Q (.sh (.int x))
    | .str z => z.length ≤ sizeLine ∧ ∃ c, atI z.cps.toList i = some c ∧ Q (.sh (.str ⟨#[c]⟩))
    | _ => False)
  | _ => False
theorem roIx_mono : MonoO roIx := fun d e _ _ hq h => by
  unfold roIx at h ⊢
  split at h
  · split at h
    · exact ⟨h.choose, h.choose_spec.1, hq _ h.choose_spec.2⟩
    · exact ⟨h.choose, h.choose_spec.1, hq _ h.choose_spec.2⟩
    · exact ⟨h.choose, h.choose_spec.1, hq _ h.choose_spec.2⟩
    · exact ⟨h.1, h.2.choose, h.2.choose_spec.1, hq _ h.2.choose_spec.2⟩
    · exact h
  · exact h
theorem atI_rps {K : PySem.W.Frag} {so : Option Addr} {B : Hp} {vs : List V} {ds : List D} {i : Int} {x : D} (h : Rps K so B vs ds) (e : atD ds i = some x) : ∃ v, atI vs i = some v ∧ Rp K so B v x := by
  unfold atD atI at e
  rw [Option.bind_eq_some_iff] at e
  obtain ⟨j, e1, e2⟩ := e
  obtain ⟨v, e3, e4⟩ := h.get e2
  exact ⟨v, by unfold atI; rw [h.len, e1]; exact e3, e4⟩
theorem od_ix : OpD G (rIx G.K) roIx := by
  intro σ ρ τ x y d e H B Q l hr hx hy h
  unfold roIx at h
  split at h
  · rename_i i
    cases hy
    split at h
    · obtain ⟨z, h1, h2⟩ := h
      cases hx with
      | lst hs hv =>
        obtain ⟨v, e1, e2⟩ := atI_rps hv h1
        exact .inl ⟨_, _, i, v, rfl, rfl, .inl (.inl (hr.hi _ _ hs)), e1, h2 (fun z => by cases z) _ _ (At.addSh l hr e2)⟩
    · obtain ⟨z, h1, h2⟩ := h
      cases hx with
      | tup hs hv =>
        obtain ⟨v, e1, e2⟩ := atI_rps hv h1
        exact .inr (.inl ⟨_, _, i, v, rfl, rfl, sqT_same hr.hi hs, e1, h2 (fun z => by cases z) _ _ (At.addSh l hr e2)⟩)
    · rename_i ns
      obtain ⟨z, h1, h2⟩ := h
      cases hx with
      | scr hs =>
        refine .inl ⟨_, _, i, .int z, rfl, rfl, hr.hi.seq hs, ?_, h2 (fun z => by cases z) _ _ (At.addSh l hr (.int _))⟩
        unfold atI at h1 ⊢
        rw [Option.bind_eq_some_iff] at h1
        obtain ⟨j, e1, e2⟩ := h1
        rw [List.length_map, e1]
        show (ns.map V.int)[j]? = _
        rw [List.getElem?_map, e2]; rfl
    · obtain ⟨h0, z, h1, h2⟩ := h
      cases hx
      exact .inr (.inr ⟨_, i, z, rfl, rfl, h0, h1, h2 (fun z => by cases z) _ _ (At.addSh l hr (.str _))⟩)
    · exact h.elim
  · exact h.elim
abbrev wIx := wOp roIx
theorem de_ix (hK : G.K = X.K) (ha : DE G X a wa) (hb : DE G X b wb) (hs : PlainIx b := by exact fun _ _ => rfl) : DE G X (.Subscript a b pos) (wIx wa wb) :=
  ⟨wOp_mono roIx_mono ha.mono hb.mono, pe_weak (pe_ix ix_seq ha.pe hb.pe hs) fun σ H Q h => by rw [← hK]; exact two_parts od_ix roIx_mono ha.mono hb.mono h⟩

/-! ### + and * of all kinds -/
theorem opR_or {X : Cx} {f : Value → Value → Sem Value} {r1 r2 : R2} (h1 : OpR X f r1) (h2 : OpR X f r2) : OpR X f (fun x y H Q => r1 x y H Q ∨ r2 x y H Q) := by
  intro pins s σ H x y u v Q I rx ry h
  rcases h with h | h
  · exact h1 pins s σ H x y u v Q I rx ry h
  · exact h2 pins s σ H x y u v Q I rx ry h
def roAdd : RO2 := fun d e Q => match d, e with
  | .int i, .int j => Q (.sh (.int (i + j)))
  | .str x, .str y => x.length + y.length ≤ sizeLine ∧ Q (.sh (.str (x ++ y)))
  | .lst ds, .lst es => ds.length + es.length ≤ sizeLine ∧ ∀ p, Q (.ow p (ds ++ es))
  | _, _ => False
theorem roAdd_mono : MonoO roAdd := fun d e _ _ hq h => by
  unfold roAdd at h ⊢
  split at h
  · exact hq _ h
  · exact ⟨h.1, hq _ h.2⟩
  · exact ⟨h.1, fun p => hq _ (h.2 p)⟩
  · exact h
theorem od_add : OpD G (fun x y H Q => (rI0 (fun i j => .int (i + j)) x y H Q ∨ (∃ i j, x = .str i ∧ y = .str j ∧ i.length + j.length ≤ sizeLine ∧ Q (.str (i ++ j)) H)) ∨ rCat x y H Q) roAdd := by
  intro σ ρ τ x y d e H B Q l hr hx hy h
  unfold roAdd at h
  split at h
  · cases hx; cases hy
    exact .inl (.inl ⟨_, _, rfl, rfl, h (fun z => by cases z) _ _ (At.addSh l hr (.int _))⟩)
  · cases hx; cases hy
    exact .inl (.inr ⟨_, _, rfl, rfl, h.1, h.2 (fun z => by cases z) _ _ (At.addSh l hr (.str _))⟩)
  · cases hx with
    | lst hs hv => cases hy with
      | lst hs2 hv2 =>
        exact .inr ⟨_, _, _, _, rfl, rfl, hr.hi _ _ hs, hr.hi _ _ hs2, by rw [hv.len, hv2.len]; exact h.1, fun p hp => h.2 p (fun z => by cases z) _ _ (At.addOw l hr hp (hv.append hv2))⟩
  · exact h.elim
theorem de_addA (ha : DE G X a wa) (hb : DE G X b wb) : DE G X (.BinOp a .Add b pos) (wOp roAdd wa wb) := de_op (opR_or (opR_or op_add op_add_str) op_cat) od_add roAdd_mono ha hb

/-! ### in, not in, of flat things -/
def flatOf : D → Option V
  | .non => some .non
  | .bl b => some (.bl b)
  | .int i => some (.int i)
  | .str z => some (.str z)
  | _ => none
def flatsOf : List D → Option (List V)
  | [] => some []
  | d :: ds => match flatOf d, flatsOf ds with
    | some v, some vs => some (v :: vs)
    | _, _ => none
def roIn (neg : Bool) : RO2 := fun d e Q => match e with
  | .lst es => ∃ v vs, flatOf d = some v ∧ flatsOf es = some vs ∧ Q (.sh (.bl (if neg then !inV v vs else inV v vs)))
  | .tup es => ∃ v vs, flatOf d = some v ∧ flatsOf es = some vs ∧ Q (.sh (.bl (if neg then !inV v vs else inV v vs)))
  | _ => False
theorem roIn_mono {neg : Bool} : MonoO (roIn neg) := fun d e _ _ hq h => by
  unfold roIn at h ⊢
  split at h
  · obtain ⟨v, vs, h1, h2, h3⟩ := h; exact ⟨v, vs, h1, h2, hq _ h3⟩
  · obtain ⟨v, vs, h1, h2, h3⟩ := h; exact ⟨v, vs, h1, h2, hq _ h3⟩
  · exact h
theorem flat_rp {K : PySem.W.Frag} {so : Option Addr} {B : Hp} {v u : V} {d : D} (h : Rp K so B v d) (e : flatOf d = some u) : v = u ∧ flatV u = true := by
  cases d <;> first
    | (cases e; cases h; exact ⟨rfl, rfl⟩)
    | cases e
theorem flats_rps {K : PySem.W.Frag} {so : Option Addr} {B : Hp} : ∀ {vs us : List V} {ds : List D}, Rps K so B vs ds → flatsOf ds = some us → vs = us ∧ us.all flatV = true
  | _, _, _, .nil, e => by cases e; exact ⟨rfl, rfl⟩
  | _, _, _, .cons h r, e => by
    unfold flatsOf at e
    split at e
    · rename_i e1 e2
      cases e
      obtain ⟨rfl, f1⟩ := flat_rp h e1
      obtain ⟨rfl, f2⟩ := flats_rps r e2
      exact ⟨rfl, by rw [List.all_cons, f1, f2]; rfl⟩
    · cases e
theorem od_in {neg : Bool} : OpD G (rIn G.K neg) (roIn neg) := by
  intro σ ρ τ x y d e H B Q l hr hx hy h
  unfold roIn at h
  split at h
  · obtain ⟨v, vs, h1, h2, h3⟩ := h
    cases hy with
    | lst hs hv =>
      obtain ⟨rfl, f1⟩ := flat_rp hx h1
      obtain ⟨rfl, f2⟩ := flats_rps hv h2
      exact ⟨_, _, rfl, .inl (.inl (.inl (hr.hi _ _ hs))), f1, f2, h3 (fun z => by cases z) _ _ (At.addSh l hr (.bl _))⟩
  · obtain ⟨v, vs, h1, h2, h3⟩ := h
    cases hy with
    | tup hs hv =>
      obtain ⟨rfl, f1⟩ := flat_rp hx h1
      obtain ⟨rfl, f2⟩ := flats_rps hv h2
      exact ⟨_, _, rfl, .inr (sqT_same hr.hi hs), f1, f2, h3 (fun z => by cases z) _ _ (At.addSh l hr (.bl _))⟩
  · exact h.elim
theorem de_in (hK : G.K = X.K) (ha : DE G X a wa) (hb : DE G X b wb) (hk : behindInMarks .In b = false := by rfl) : DE G X (.Compare a [.In] [b] pos) (wOp (roIn false) wa wb) := de_cmp op_in_seq (hK ▸ od_in) roIn_mono ha hb hk
theorem de_notin (hK : G.K = X.K) (ha : DE G X a wa) (hb : DE G X b wb) (hk : behindInMarks .NotIn b = false := by rfl) : DE G X (.Compare a [.NotIn] [b] pos) (wOp (roIn true) wa wb) := de_cmp op_notIn_seq (hK ▸ od_in) roIn_mono ha hb hk
theorem db_in (hK : G.K = X.K) (ha : DE G X a wa) (hb : DE G X b wb) (hk : behindInMarks .In b = false := by rfl) : DB G X (.Compare a [.In] [b] pos) (wTest (wOp (roIn false) wa wb)) := db_cmp op_in_seq (hK ▸ od_in) roIn_mono ha hb hk
theorem db_notin (hK : G.K = X.K) (ha : DE G X a wa) (hb : DE G X b wb) (hk : behindInMarks .NotIn b = false := by rfl) : DB G X (.Compare a [.NotIn] [b] pos) (wTest (wOp (roIn true) wa wb)) := db_cmp op_notIn_seq (hK ▸ od_in) roIn_mono ha hb hk

/-! ### {}, constants of the module -/
def wDic0 : DT Sl := fun ρ Q _ => Q (.sh (.dic [] [])) ρ
theorem de_dnew : DE G X (.Dict [] [] pos) wDic0 := by
  refine ⟨fun _ _ _ _ _ hq _ h => hq _ _ h, pe_weak pe_dnewK fun σ H Q hw => ?_⟩
  obtain ⟨ρ, τ, ⟨l, B, hr⟩, hw⟩ := hw
  exact fun p hp => hw (fun z => by cases z) rfl _ _ (At.addNew l hr hp fun B' e1 e2 => .dic (ks := []) (vs := []) (by exact e2) rfl .nil)
theorem de_globI {x : Str} {i : Int} {t : Tok} (hm : X.mg x = some (.int i t)) (hg : Gl X x := by rfl) (hd : (x == ("__debug__" : Str)) = false := by decide) : DE G X (.Name x pos) (wC (.int i)) :=
  de_const (pe_glob (v := .int i) hg hm ⟨t, rfl⟩ hd) fun _ => .int i

end
end DL
set_option Elab.async false
set_option maxRecDepth 100000
set_option maxHeartbeats 4000000
set_option linter.unusedVariables false
/-! data-level layer, part j: calls by keywords, appends, unpacking -/
namespace DL
open PySem PySem.Spec PyProof.Rows L2 NdefX
section
variable {G : Gx} {X : Cx} {e a b : Expr} {we wa wb : DT Sl} {pos p : Pos} {f : Str}
/-! ### calls by keywords -/
def permL {α : Type} (js : List Nat) (l : List α) : List α := js.filterMap (l[·]?)
theorem permL_map {α β : Type} (f : α → β) (l : List α) : ∀ js : List Nat, permL js (l.map f) = (permL js l).map f
  | [] => rfl
  | j :: js => by
    have ih := permL_map f l js
    unfold permL at ih ⊢
    rw [List.filterMap_cons, List.filterMap_cons, List.getElem?_map]
    cases l[j]? with
    | none => exact ih
    | some x => show f x :: _ = f x :: _; rw [ih]
theorem permL_vals {vs : List V} {us : List Value} (r : Vals vs us) : ∀ js : List Nat, Vals (permL js vs) (permL js us)
  | [] => .nil
  | j :: js => by
    have ih := permL_vals r js
    unfold permL at ih ⊢
    rw [List.filterMap_cons, List.filterMap_cons]
    cases e : vs[j]? with
    | none =>
      have e2 : us[j]? = none := by rw [List.getElem?_eq_none_iff] at e ⊢; rw [← r.length]; exact e
      rw [e2]; exact ih
    | some x =>
      obtain ⟨u, e2, rx⟩ := r.get e
      rw [e2]; exact .cons rx ih
theorem permL_rps {K : PySem.W.Frag} {so : Option Addr} {B : Hp} {vs : List V} {ds : List D} (r : Rps K so B vs ds) : ∀ js : List Nat, Rps K so B (permL js vs) (permL js ds)
  | [] => .nil
  | j :: js => by
    have ih := permL_rps r js
    unfold permL at ih ⊢
    rw [List.filterMap_cons, List.filterMap_cons]
    cases e : ds[j]? with
    | none =>
      have e2 : vs[j]? = none := by rw [List.getElem?_eq_none_iff] at e ⊢; rw [r.len]; exact e
      rw [e2]; exact ih
    | some x =>
      obtain ⟨u, e2, rx⟩ := r.get e
      rw [e2]; exact .cons rx ih
/-- a def that is called with names: ks the names as written, js puts the values in the parameters' order -/
structure FDK (P : Program) (w : World) (K : PySem.W.Frag) (mg : Str → Option Value) (base : Heap) (k : Nat) (x : Str) (n : Nat) (ks : List Str) (js : List Nat) (W : DW1) : Prop where
  mono : MonoW W
  ex : ∃ (f : Addr) (fd : FuncData) (ps : List Str), ps.length = n ∧ mg x = some (.ref f) ∧ PySem.W.keepIn K (.ref f) = true ∧ FnOk P w K mg base (L2N.CX P w) k f fd ps (spD K n W) ∧
    ∀ (s : Shared) (ws : List Value), K.In s.heap → ws.length = ks.length → BindsTo s fd ⟨[], ks.zip ws⟩ (ps.zip (permL js ws))
/-- names' values -/
structure DKw (G : Gx) (X : Cx) (kws : List Keyword) (w : DT (List Sl)) : Prop where
  mono : Mono w
  pk : ∃ t, PK X kws t ∧ ∀ σ H Q, tDA G kws.length w σ H Q → t σ H Q
theorem dk_nil : DKw G X [] wNil := ⟨fun _ _ _ _ _ hq _ h => hq _ _ h, _, pk_nil, fun σ H Q h => by
  obtain ⟨ρ, τ, hA, hw⟩ := h
  refine hw (fun x hx => by cases hx) rfl rfl [] H rfl ?_
  show At G σ ρ (τ ++ []) H
  rw [List.append_nil]
  exact hA⟩
theorem dk_cons {kws : List Keyword} {nm : Option Str} {kp : Pos} {wr : DT (List Sl)} (ha : DE G X e wa) (hr : DKw G X kws wr) : DKw G X (⟨nm, e, kp⟩ :: kws) (wCons wa wr) := by
  obtain ⟨t, ht, hq⟩ := hr.pk
  refine ⟨wCons_mono ha.mono hr.mono, _, pk_cons ha.pe ht, fun σ H Q h => ?_⟩
  obtain ⟨ρ, τ, hA, hw⟩ := h
  refine ⟨ρ, τ, hA, ha.mono (fun x ρ1 k nx l v H1 A1 => ?_) (fun _ _ e => e) hw⟩
  refine hq σ H1 _ ⟨ρ1, _, A1, hr.mono (fun xs ρ2 k2 nxs ln l2 vs H2 lv A2 => ?_) xw_app k⟩
  refine k2 (fun y hy => ?_) (by rw [List.length_cons, List.length_cons, ln]) (l2.trans l) (v :: vs) H2 (by rw [List.length_cons, List.length_cons, lv]) ?_
  · rcases List.mem_cons.mp hy with rfl | hy
    · exact nx
    · exact nxs y hy
  · show At G σ ρ2 (τ ++ ((some v, x) :: temps vs xs)) H2
    rw [List.append_assoc] at A2
    exact A2
theorem de_callK {k n : Nat} {x : Str} {W : DW1} {kws : List Keyword} {ks : List Str} {js : List Nat} {wr : DT (List Sl)} (F : FDK X.prog X.w X.K X.mg X.base k x n ks js W) (hr : Room k X.A) (hK : G.K = X.K) (tk : L2N.Takes X fun cls d σ H => G.EX σ cls d H) (ha : DKw G X kws wr)
    (hjs : ∀ ds : List D, ds.length = kws.length → (permL js ds).length = n) (hg : Gl X x := by rfl) (hall : (backToKw pos (keywordEach kws X.env)).all (·.1.isSome) = true := by rfl) (hks : (backToKw pos (keywordEach kws X.env)).filterMap (·.1) = ks := by rfl)
    (hkl : ks.length = kws.length := by rfl) (hdb : (x == ("__debug__" : Str)) = false := by decide) (hpl : ((backTo pos (starEach [] X.env)).any (·.1) || (backToKw pos (keywordEach kws X.env)).any (·.1.isNone)) = false := by rfl) :
    DE G X (.Call (.Name x p) [] kws pos) (wCall (fun ds Q E => W (permL js ds) Q E) wr) := by
  obtain ⟨hW, f, fd, ps, hp, hm, hk, hF, hB⟩ := F
  obtain ⟨t, ht, hq⟩ := ha.pk
  refine ⟨wCall_mono (fun ds _ _ _ _ a b c => hW a b c) ha.mono, ⟨fun pins s σ H Q I h => wpAny_Call_Name_kw (ld_glob I hg hm ?_ hdb)⟩⟩
  obtain ⟨ρ, τ, hA, hw⟩ := h
  refine PySem.W.callWith_KW0 (h₀ := X.base) I.ok.mod.kin hk hall (thn (ht.run pos pins s σ H (fun vs H1 => spD G.K n W (permL js vs) H1 Q (G.EX σ) ∧ vs.length = kws.length) I (hq σ H _ ⟨ρ, τ, hA, ha.mono (fun xs ρ1 k nxs ln l vs H1 lv A1 => ?_) (fun _ _ e => e) hw⟩)) fun ws s2 ⟨zs, H2, I2, rz, q2, lz⟩ => ⟨I2.kIn, ?_⟩) hpl
  · obtain ⟨B, h1, h2⟩ := A1.stills lv nxs
    have ld : (datas xs).length = kws.length := by unfold datas; rw [List.length_map, ln]
    exact ⟨call_ends hW A1.len (hjs _ ld) h2 (permL_rps h1 js) (hW (fun z q nz => q nz l) (fun _ q => q) k), by rw [lv, ln]⟩
  · rw [hks]
    rw [hK] at q2
    refine wpAny_call (codeAny_mono (hF.run X.A X.stack s2 H2 ⟨[], ks.zip ws⟩ (permL js ws) (permL js zs) Q (G.EX σ) hr I2.env0 (hB s2 ws I2.kIn (by rw [hkl, ← lz, rz.length])) (permL_vals rz js) q2) fun r s' hq' => ?_)
    cases r with
    | error e => exact L2N.passAt tk σ pins H2 s2 e s' I2 hq'
    | ok fl => cases fl with
      | ret u => exact I2.after hq'
      | next => exact hq'.elim
      | brk => exact hq'.elim
      | cont => exact hq'.elim

/-! ### xs.append(e), xs a list of one's own -/
def wAppend (i : Nat) (we : DT Sl) : DS := fun D ρ E => match ρ[i]? with
  | some (.ow p _) => we ρ (fun x ρ1 => match ρ1[i]? with
    | some (.ow p' ds) => p' = p ∧ ds.length < sizeLine ∧ D.nx (ρ1.set i (.ow p (ds ++ [x.dat])))
    | _ => False) E
  | _ => False
theorem wAppend_mono {i : Nat} {we : DT Sl} (h : Mono we) : MonoS (wAppend i we) := fun ρ N N' E E' q hd he => by
  unfold wAppend at q ⊢
  split at q
  · refine h (fun x ρ1 k => ?_) he q
    split at k
    · exact ⟨k.1, k.2.1, hd.nx _ k.2.2⟩
    · exact k.elim
  · exact q.elim
theorem ds_append (i : Nat) {x : Str} {px apos spos : Pos} (hK : G.K = X.K) (he : DE G X e we) (hN : X.N[i]? = some x := by rfl) (hv : Vis X.env.scope x := by first | exact Or.inl rfl | exact Or.inr (Or.inl rfl) | exact Or.inr (Or.inr rfl)) (hd : (x == ("__debug__" : Str)) = false := by decide)
    (hcd : (x == ("__classdict__" : Str)) = false := by decide)
    (hst : starEach [e] X.env = (false, eval e X.env) :: starEach [] X.env := by rfl)
    (hbm : ∀ {t : TE} {to : TE} {ta : TA}, PE X (.Name x px) to → PA X [e] ta → PE X (.Call (.Attribute (.Name x px) "append" apos) [e] [] pos) (tBM X.K "list" rAppend to ta) := by
      exact fun ho ha => pe_bm PySem.F.plainAttrs_list PySem.F.slot_list_append PySem.F.type_list_append mt_append ho ha)
    (hs : swapsWith (.Call (.Attribute (.Name x px) "append" apos) [e] [] pos) none spos.line X.env = pure false := by rfl) :
    DSt G X (.Expr (.Call (.Attribute (.Name x px) "append" apos) [e] [] pos) spos) (wAppend i we) := by
  refine ⟨wAppend_mono he.mono, ps_weak (ps_expr (hbm (t := tVar i) (pe_var hN hv hd hcd) (pa_cons he.pe pa_nil hst)) hs) fun D σ H h => ?_⟩
  obtain ⟨ρ, τ, hA, hw⟩ := h
  unfold wAppend at hw
  split at hw
  · rename_i p ds e1
    obtain ⟨L, R, v, h1, h2, h3⟩ := zip_split hA.len e1
    obtain ⟨B, hr⟩ := hA.rel
    rw [h2] at hr
    have q := hr.rep (v, .ow p ds) (by simp)
    cases v with
    | none => exact q.elim
    | some v =>
      obtain ⟨rfl, vs, q1, q2⟩ : v = .ref p ∧ ∃ vs, H p = some (.lst vs) ∧ Rps G.K G.so B vs ds := q
      refine ⟨.ref p, h1, .inl ⟨rfl, _, .inl (.inl q1)⟩, ?_⟩
      show tD G we σ H _
      refine ⟨ρ, τ, hA, he.mono (fun x ρ1 k nx l v H1 A1 => ?_) (fun _ _ e => e) hw⟩
      split at k
      · rename_i p' ds' e2
        obtain ⟨rfl, k2, k3⟩ := k
        obtain ⟨B1, r1⟩ := A1.freezeLast nx
        obtain ⟨L1, R1, v1, g1, g2, g3⟩ := zip_split A1.len e2
        rw [g2] at r1
        have z := r1.rep (v1, .ow p' ds') (by simp)
        rw [h1] at g1
        cases g1
        obtain ⟨_, vs1, z1, z2⟩ : V.ref p' = .ref p' ∧ ∃ vs, H1 p' = some (.lst vs) ∧ Rps G.K G.so B1 vs ds' := z
        have zx : Rp G.K G.so B1 v x.dat := r1.rep (some v, .sh x.dat) (by simp)
        refine ⟨p', vs1, v, rfl, rfl, z1, by rw [z2.len]; exact k2, ?_⟩
        refine k3 (by rw [List.length_set]; exact l) σ _ ⟨by rw [List.length_set]; exact A1.len, B1, ?_⟩
        rw [g3]
        rw [List.append_assoc, List.cons_append] at r1
        have c := r1.change (es := ds' ++ [x.dat]) (z2.append (.cons zx .nil))
        rw [List.append_assoc, List.cons_append]
        refine c.sublist (List.Sublist.append (List.Sublist.refl _) (List.Sublist.cons_cons _ (List.Sublist.append (List.Sublist.refl _) (List.sublist_append_left _ _))))
      · exact k.elim
  · exact hw.elim

/-! ### a, b = e -/
theorem Rps.two {K : PySem.W.Frag} {so : Option Addr} {B : Hp} {vs : List V} {a b : D} (h : Rps K so B vs [a, b]) : ∃ va vb, vs = [va, vb] ∧ Rp K so B va a ∧ Rp K so B vb b := by
  cases h with
  | cons h1 r => cases r with
    | cons h2 r => cases r; exact ⟨_, _, rfl, h1, h2⟩
def wUnp2 (i j : Nat) (we : DT Sl) : DS := fun D ρ E => we ρ (fun x ρ1 => match x.dat with
  | .tup [a, b] => D.nx ((ρ1.set i (.sh a)).set j (.sh b))
  | _ => False) E
theorem ds_unp2 (i j : Nat) {x y : Str} {px py pt spos : Pos} {kt : Nat} (hc : X.calm = true) (hK : G.K = X.K) (hN : X.N.Nodup) (he : DE G X e we) (hi : X.N[i]? = some x := by rfl) (hj : X.N[j]? = some y := by rfl)
    (hx : Loc X.env.scope x := by first | exact Or.inl rfl | exact Or.inr rfl) (hy : Loc X.env.scope y := by first | exact Or.inl rfl | exact Or.inr rfl)
    (hpg : ∀ {t u : TG}, PG X (.Name x px) t → PG X (.Name y py) u → PG X (.Tuple [.Name x px, .Name y py] kt pt) (gTup X.K 2 (gCons t (gCons u gNil))) := by
      exact fun h1 h2 => pg_tup rfl (pgs_cons h1 (pgs_cons h2 pgs_nil)))
    (hfx : X.fn x = true ∨ X.env.scope.names.lookup x = some .local := by first | exact .inl rfl | exact .inr rfl) (hfy : X.fn y = true ∨ X.env.scope.names.lookup y = some .local := by first | exact .inl rfl | exact .inr rfl)
    (hs : swapsWithSole [.Tuple [.Name x px, .Name y py] kt pt] e spos.line X.env = pure false := by rfl)
    (hasg : ∀ {t : TE} {g : TG}, PE X e t → PG X (.Tuple [.Name x px, .Name y py] kt pt) g → PS X (.Assign [.Tuple [.Name x px, .Name y py] kt pt] e spos) (tAsg t g) := by exact fun h1 h2 => ps_asg h1 h2) :
    DSt G X (.Assign [.Tuple [.Name x px, .Name y py] kt pt] e spos) (wUnp2 i j we) := by
  refine ⟨fun ρ N N' E E' h hd hE => he.mono (fun x ρ1 k => ?_) hE h, ps_weak (hasg he.pe (hpg (pg_name (i := i) hN hi hx hfx) (pg_name (i := j) hN hj hy hfy))) fun D σ H h => ?_⟩
  · split at k
    · exact hd.nx _ k
    · exact k.elim
  · obtain ⟨ρ, τ, hA, hw⟩ := h
    refine ⟨ρ, τ, hA, he.mono (fun x ρ1 k nx l v H1 A1 => ?_) (fun _ _ e => e) hw⟩
    obtain ⟨B, h1, h2⟩ := A1.still nx
    split at k
    · rename_i a b ex
      rw [ex] at h1
      cases h1 with
      | @tup pa vs _ hs hv =>
        obtain ⟨va, vb, rfl, q1, q2⟩ := hv.two
        refine ⟨_, _, rfl, by rw [← hK]; exact sqT_same h2.hi hs, rfl, va, _, rfl, vb, _, rfl, rfl, k (by rw [List.length_set, List.length_set]; exact l) _ H1 ?_⟩
        have a2 : At G (σ.set i (some va)) (ρ1.set i (.sh a)) (τ ++ [(some vb, .sh b)]) H1 := by
          refine At.store i (x := .sh a) (v := va) (τ := τ ++ [(some vb, .sh b)]) ⟨A1.len, B, ?_⟩
          rw [← List.append_assoc, ← List.append_assoc]
          exact (h2.addSh q2).addSh q1
        exact At.store j a2
    · exact k.elim
end
end DL
set_option Elab.async false
set_option maxRecDepth 100000
set_option maxHeartbeats 4000000
set_option linter.unusedVariables false
/-! data-level layer, part k: lists of one's own read and stored by place, the store of draws -/
namespace DL
open PySem PySem.Spec PyProof.Rows L2 NdefX
section
variable {G : Gx} {X : Cx} {e a b : Expr} {we wa wb : DT Sl} {pos p : Pos} {f : Str}
/-- the value of a name that holds a list of one's own -/
theorem At.own {σ : St} {ρ : DEnv} {τ : Roots} {H : Hp} (h : At G σ ρ τ H) {i : Nat} {q : Addr} {ds : List D} (e : ρ[i]? = some (.ow q ds)) : σ[i]? = some (some (.ref q)) ∧ ∃ B vs, Rel G (σ.zip ρ ++ τ) H B ∧ H q = some (.lst vs) ∧ Rps G.K G.so B vs ds := by
  obtain ⟨L, R, v, h1, h2, h3⟩ := zip_split h.len e
  obtain ⟨B, hr⟩ := h.rel
  have z := hr.rep (v, .ow q ds) (by rw [h2]; simp)
  cases v with
  | none => exact z.elim
  | some v =>
    obtain ⟨rfl, vs, z1, z2⟩ : v = .ref q ∧ ∃ vs, H q = some (.lst vs) ∧ Rps G.K G.so B vs ds := z
    exact ⟨h1, B, vs, hr, z1, z2⟩
/-- x[e], x a list of one's own -/
def wIxO (i : Nat) (wi : DT Sl) : DT Sl := fun ρ Q E => match ρ[i]? with
  | some (.ow _ _) => wi ρ (fun y ρ1 => match ρ1[i]?, y.dat with
    | some (.ow _ ds), .int k => ∃ z, atD ds k = some z ∧ Q (.sh z) ρ1
    | _, _ => False) E
  | _ => False
theorem wIxO_mono {i : Nat} {wi : DT Sl} (h : Mono wi) : Mono (wIxO i wi) := fun ρ _ _ _ _ hq he q => by
  unfold wIxO at q ⊢
  split at q
  · refine h (fun y ρ1 k => ?_) he q
    split at k
    · obtain ⟨z, k1, k2⟩ := k; exact ⟨z, k1, hq _ _ k2⟩
    · exact k.elim
  · exact q.elim
theorem de_ixO (i : Nat) {x : Str} {px : Pos} (hK : G.K = X.K) (hb : DE G X b wb) (hN : X.N[i]? = some x := by rfl) (hv : Vis X.env.scope x := by first | exact Or.inl rfl | exact Or.inr (Or.inl rfl) | exact Or.inr (Or.inr rfl)) (hd : (x == ("__debug__" : Str)) = false := by decide)
    (hcd : (x == ("__classdict__" : Str)) = false := by decide) (hs : PlainIx b := by exact fun _ _ => rfl) : DE G X (.Subscript (.Name x px) b pos) (wIxO i wb) := by
  refine ⟨wIxO_mono hb.mono, pe_weak (pe_ix ix_seq (pe_var hN hv hd hcd) hb.pe hs) fun σ H Q h => ?_⟩
  obtain ⟨ρ, τ, hA, hw⟩ := h
  unfold wIxO at hw
  split at hw
  · rename_i q ds e1
    obtain ⟨h1, _⟩ := hA.own e1
    refine ⟨.ref q, h1, ρ, τ, hA, hb.mono (fun y ρ1 k ny l v H1 A1 => ?_) (fun _ _ e => e) hw⟩
    split at k
    · rename_i q' es j e2 ej
      obtain ⟨z, k1, k2⟩ := k
      obtain ⟨g1, B, vs, r, z1, z2⟩ := A1.own e2
      rw [h1] at g1
      cases g1
      obtain ⟨B2, r2, r3⟩ := A1.still ny
      rw [ej] at r2
      cases r2
      obtain ⟨u, e3, e4⟩ := atI_rps z2 k1
      refine .inl ⟨q, vs, j, u, rfl, rfl, .inl (.inl z1), e3, k2 (fun z => by cases z) l u H1 (At.addSh A1.len ?_ e4)⟩
      exact r.sublist (by rw [← List.append_assoc]; exact List.sublist_append_left _ _)
    · exact k.elim
  · exact hw.elim
/-- len(x), x a list of one's own -/
def wLenO (i : Nat) : DT Sl := fun ρ Q _ => match ρ[i]? with
  | some (.ow _ ds) => Q (.sh (.int ds.length)) ρ
  | _ => False
theorem de_lenO (i : Nat) {x : Str} {px : Pos} (hK : G.K = X.K) (hm : X.mg "len" = none) (hN : X.N[i]? = some x := by rfl) (hv : Vis X.env.scope x := by first | exact Or.inl rfl | exact Or.inr (Or.inl rfl) | exact Or.inr (Or.inr rfl)) (hd : (x == ("__debug__" : Str)) = false := by decide)
    (hcd : (x == ("__classdict__" : Str)) = false := by decide) (hg : Gl X "len" := by rfl) (he : starEach [.Name x px] X.env = (false, eval (.Name x px) X.env) :: starEach [] X.env := by rfl) : DE G X (.Call (.Name "len" p) [.Name x px] [] pos) (wLenO i) := by
  refine ⟨fun ρ _ _ _ _ hq he h => ?_, pe_weak (pe_callB call_len hg hm (by decide +kernel) (pa_cons (pe_var (i := i) hN hv hd hcd) pa_nil he) (by decide) (by decide) he rfl) fun σ H Q h => ?_⟩
  · unfold wLenO at h ⊢
    split at h
    · exact hq _ _ h
    · exact h.elim
  · obtain ⟨ρ, τ, hA, hw⟩ := h
    unfold wLenO at hw
    split at hw
    · rename_i q ds e1
      obtain ⟨h1, B, vs, r, z1, z2⟩ := hA.own e1
      exact ⟨.ref q, h1, .ref q, vs.length, rfl, .inl ⟨vs, .inl (.inl z1), rfl⟩, by rw [z2.len]; exact hw (fun z => by cases z) rfl _ H (At.addSh hA.len r (.int _))⟩
    · exact hw.elim
/-- x[k] = e, x a list of one's own -/
def wSetIx (i : Nat) (we wi : DT Sl) : DS := fun D ρ E => we ρ (fun x ρ1 => match ρ1[i]? with
  | some (.ow _ _) => wi ρ1 (fun y ρ2 => match ρ2[i]?, y.dat with
    | some (.ow q ds), .int k => ∃ j, ixN ds.length k = some j ∧ D.nx (ρ2.set i (.ow q (ds.set j x.dat)))
    | _, _ => False) E
  | _ => False) E
theorem wSetIx_mono {i : Nat} {we wi : DT Sl} (h1 : Mono we) (h2 : Mono wi) : MonoS (wSetIx i we wi) := fun ρ N N' E E' q hd he => h1 (fun x ρ1 k => by
  split at k
  · refine h2 (fun y ρ2 k2 => ?_) he k
    split at k2
    · obtain ⟨j, a, b⟩ := k2; exact ⟨j, a, hd.nx _ b⟩
    · exact k2.elim
  · exact k.elim) he q
theorem ds_setix (i : Nat) {x : Str} {px ps spos : Pos} (hK : G.K = X.K) (he : DE G X e we) (hi : DE G X b wb) (hN : X.N[i]? = some x := by rfl) (hv : Vis X.env.scope x := by first | exact Or.inl rfl | exact Or.inr (Or.inl rfl) | exact Or.inr (Or.inr rfl)) (hd : (x == ("__debug__" : Str)) = false := by decide)
    (hcd : (x == ("__classdict__" : Str)) = false := by decide)
    (hpg : ∀ {to ti : TE}, PE X (.Name x px) to → PE X b ti → PG X (.Subscript (.Name x px) b ps) (gSub to ti rSetL) := by exact fun h1 h2 => pg_sub h1 h2 set_list)
    (hasg : ∀ {t : TE} {g : TG}, PE X e t → PG X (.Subscript (.Name x px) b ps) g → PS X (.Assign [.Subscript (.Name x px) b ps] e spos) (tAsg t g) := by exact fun h1 h2 => ps_asg h1 h2) :
    DSt G X (.Assign [.Subscript (.Name x px) b ps] e spos) (wSetIx i we wb) := by
  refine ⟨wSetIx_mono he.mono hi.mono, ps_weak (hasg he.pe (hpg (pe_var hN hv hd hcd) hi.pe)) fun D σ H h => ?_⟩
  obtain ⟨ρ, τ, hA, hw⟩ := h
  refine ⟨ρ, τ, hA, he.mono (fun x ρ1 k nx l v H1 A1 => ?_) (fun _ _ e => e) hw⟩
  split at k
  · rename_i q ds e1
    obtain ⟨h1, _⟩ := A1.own e1
    refine ⟨.ref q, h1, ρ1, _, A1, hi.mono (fun y ρ2 k2 ny l2 u H2 A2 => ?_) xw_app k⟩
    split at k2
    · rename_i q' es j e2 ej
      obtain ⟨n, k3, k4⟩ := k2
      obtain ⟨B1, r1⟩ := A2.freezeLast ny
      have A3 : At G σ ρ2 (τ ++ [(some v, x)]) H2 := A2.drop
      -- both temporaries told still
      have A4 : At G σ ρ2 (τ ++ [(some v, x)] ++ [(some u, .sh y.dat)]) H2 := ⟨A2.len, B1, r1⟩
      obtain ⟨B4, r4⟩ := A4.rel
      rw [List.append_assoc, ← List.append_assoc] at r4
      have fz := Rel.freeze (R₁ := σ.zip ρ2 ++ τ) (R₂ := [(some u, .sh y.dat)]) nx r4
      have rx : Rp G.K G.so _ v x.dat := fz.rep (some v, .sh x.dat) (by simp)
      have ry : Rp G.K G.so _ u y.dat := fz.rep (some u, .sh y.dat) (by simp)
      rw [ej] at ry
      cases ry
      have r5 := fz.sublist (List.sublist_append_left (σ.zip ρ2 ++ τ) _)
      obtain ⟨L, R, w1, g1, g2, g3⟩ := zip_split A2.len e2
      rw [h1] at g1
      cases g1
      rw [g2, List.append_assoc, List.cons_append] at r5
      obtain ⟨eq, vs1, z1, z2⟩ : V.ref q = .ref q' ∧ ∃ vs, H2 q' = some (.lst vs) ∧ Rps G.K G.so _ vs es := r5.rep (some (.ref q), .ow q' es) (by simp)
      cases eq
      have fin := r5.change (z2.set rx n)
      rw [← List.cons_append, ← List.append_assoc, ← g3] at fin
      exact ⟨q, vs1, j, n, rfl, rfl, z1, by rw [z2.len]; exact k3, k4 (by rw [List.length_set]; exact l2.trans l) σ _ ⟨by rw [List.length_set]; exact A2.len, _, fin⟩⟩
    · exact k2.elim
  · exact k.elim
def wNever : DS := fun _ _ _ => False
theorem ds_never {st : Stmt} : DSt G X st wNever := ⟨fun _ _ _ _ _ h _ _ => h, ps_weak ps_never fun D σ H h => by obtain ⟨_, _, _, z⟩ := h; exact z⟩
end

/-! ### the store of draws -/
section
variable {K : PySem.W.Frag} {B : Hp}
mutual
theorem Rp.so {s : Addr} : ∀ {v : V} {d : D}, Rp K none B v d → Rp K (some s) B v d
  | _, _, .non => .non
  | _, _, .bl b => .bl b
  | _, _, .int i => .int i
  | _, _, .str x => .str x
  | _, _, .lst h r => .lst h (Rps.so r)
  | _, _, .tup h r => .tup h (Rps.so r)
  | _, _, .dic h l r => .dic h l (Rps.so r)
  | _, _, .ins h l r => .ins h l (Rps.so r)
  | _, _, .exn z q => .exn z q
  | _, _, .exa z q x r => .exa z q x (Rp.so r)
  | _, _, .scr h => .scr h
theorem Rps.so {s : Addr} : ∀ {vs : List V} {ds : List D}, Rps K none B vs ds → Rps K (some s) B vs ds
  | _, _, .nil => .nil
  | _, _, .cons h r => .cons (Rp.so h) (Rps.so r)
end
mutual
theorem Dpr.so {s : Addr} {H : Hp} : ∀ {v : V} {d : D} {F : List Addr}, Dpr K none B H v d F → Dpr K (some s) B H v d F
  | _, _, _, .leaf h n => .leaf h.so n
  | _, _, _, .lst h r => .lst h (Dprs.so r)
  | _, _, _, .tup h r => .tup h (Dprs.so r)
theorem Dprs.so {s : Addr} {H : Hp} : ∀ {vs : List V} {ds : List D} {F : List Addr}, Dprs K none B H vs ds F → Dprs K (some s) B H vs ds F
  | _, _, _, .nil => .nil
  | _, _, _, .cons h r => .cons (Dpr.so h) (Dprs.so r)
end
theorem RepS.so {s : Addr} {H : Hp} {v : Option V} {x : Sl} (h : RepS K none B H v x) : RepS K (some s) B H v x := by
  cases x with
  | un => cases v <;> trivial
  | sh d => cases v with
    | none => exact h.elim
    | some v => exact Rp.so (show Rp K none B v d from h)
  | ow q ds => cases v with
    | none => exact h.elim
    | some v => obtain ⟨h1, vs, h2, h3⟩ := h; exact ⟨h1, vs, h2, h3.so⟩
  | dp F d => cases v with
    | none => exact h.elim
    | some v => exact Dpr.so (show Dpr K none B H v d F from h)
end
/-- the store's content -/
def stoD (ns : List Int) (i h m c : Int) : List D := [.scr ns, .int i, .int h, .int m, .int c]
/-- what a body that works on the store is to reach -/
def bodyEndsS (s : Addr) (ns : List Int) (Q : Sl → Prop) : DEn where
  nx := fun ρ => (∃ y, Cv (.sh .non) y ∧ Q y) ∧ ∃ i h m c, ρ[0]? = some (.ow s (stoD ns i h m c)) ∧ 0 ≤ i ∧ 0 ≤ h
  rt := fun x ρ => (∃ y, Cv x y ∧ Q y) ∧ ∃ i h m c, ρ[0]? = some (.ow s (stoD ns i h m c)) ∧ 0 ≤ i ∧ 0 ≤ h
section
variable {P : Program} {w : World} {K : PySem.W.Frag} {mg : Str → Option Value} {base : Heap} {x qual : Str} {params : Arguments} {body : List Stmt} {scope : Scope} {f : Addr} {fd : FuncData}
/-- behind the body: the store is told as a whole again -/
theorem sto_back {so : Addr} {B H : Hp} {E : L2.St → XK} {σ' : St} {ρ' : DEnv} {v : V} {z : Sl} {H' : Hp} {ns : List Int} {i h m c : Int} (A : At ⟨K, none, B, fun a => if a = so then none else H a, E⟩ σ' ρ' [(some v, z)] H') (e : ρ'[0]? = some (.ow so (stoD ns i h m c))) (hi : 0 ≤ i) (hh : 0 ≤ h) :
    RelE ⟨K, some so, B, H, E⟩ [(some v, z)] H' := by
  obtain ⟨L, R, u, g1, g2, g3⟩ := zip_split A.len e
  obtain ⟨B', r⟩ := A.rel
  rw [g2] at r
  have hs := r.rep (u, .ow so (stoD ns i h m c)) (by simp)
  have hnd := r.nd
  rw [List.append_assoc, List.cons_append, feet_split] at hnd
  have mz : (some v, z) ∈ L ++ (u, Sl.ow so (stoD ns i h m c)) :: R ++ [(some v, z)] := by simp
  have ms : so ∈ feet (L ++ (u, Sl.ow so (stoD ns i h m c)) :: R ++ [(some v, z)]) := mem_feet (r := (u, Sl.ow so (stoD ns i h m c))) (by simp) (by simp [Sl.foot])
  have nz : ∀ q ∈ z.foot, q ≠ so := fun q hq eq => by
    obtain ⟨_, h2, _⟩ := List.nodup_append.mp hnd
    obtain ⟨_, _, h3⟩ := List.nodup_append.mp h2
    refine h3 so (by simp [Sl.foot]) q ?_ eq.symm
    rw [feet_append, feet_one]
    exact List.mem_append_right _ hq
  refine ⟨B', r.lo, r.hi, fun a o ea na => r.fr a o (by show (if a = so then none else H a) = some o; rw [if_neg (fun z => na (by rw [z]))]; exact ea) (fun z => by cases z), fun a xs ea na => ?_, fun q hq => ?_, ?_, fun q hq => ?_, fun s es => ?_⟩
  · by_cases has : a = so
    · rw [has, (r.ap so ms).1] at ea; cases ea
    · exact r.nw a xs ea (by show (if a = so then none else H a) ≠ none; rw [if_neg has]; exact na)
  · have eq : q = (some v, z) := by simpa using hq
    subst eq
    exact (r.rep _ mz).so
  · rw [feet_one]
    have := r.nd
    rw [feet_append, feet_one] at this
    exact (List.nodup_append.mp this).2.1
  · rw [feet_one] at hq
    obtain ⟨a1, a2, a3⟩ := r.ap q (mem_feet mz hq)
    refine ⟨a1, ?_, fun eq => nz q hq (Option.some.inj eq).symm⟩
    have a2' : (if q = so then none else H q) = none := a2
    rw [if_neg (nz q hq)] at a2'
    exact a2'
  · cases es
    refine ⟨(r.ap so ms).1, ?_⟩
    cases u with
    | none => exact hs.elim
    | some u =>
      obtain ⟨rfl, vs, z1, z2⟩ : u = .ref so ∧ ∃ vs, H' so = some (.lst vs) ∧ Rps K none B' vs (stoD ns i h m c) := hs
      cases z2 with
      | cons y1 z2 => cases y1 with
        | @scr l _ hl => cases z2 with
          | cons y2 z2 => cases y2; cases z2 with
            | cons y3 z2 => cases y3; cases z2 with
              | cons y4 z2 => cases y4; cases z2 with
                | cons y5 z2 => cases y5; cases z2; exact ⟨l, ns, i, h, m, c, z1, hl, hi, hh⟩
/-- a def of the store and one int -/
theorem fd_sto {N ps : List Str} {k : Nat} {W : DW1} (hW : MonoW W) (F : FunD K x qual params body scope [] [] f fd) (S : FnScope N ps scope) (hm : mg x = some (.ref f)) (hps : ps.length = 2) (hN : 2 ≤ N.length)
    (hWs : ∀ ds Q E, W ds Q E → ∃ j, ds = [.sto, .int j])
    (hbd : ∀ (kV doc pm : Value) (an : Option Addr) (cdv ct : Value) (us : List Value), us.length = ps.length → bindArgs (PySem.W.fnOf x qual params body scope .none kV doc pm an cdv ct) ⟨us, []⟩ = pure (ps.zip us))
    (hb : ∀ (cdv : Value) (A : Around) (outer : List Env) (s : Shared) (H : Hp) (E : XK) (G : Gx), G.K = K → G.EX = (fun _ => E) → Room k (A.deeper (envOfC qual scope s.heap.objs.size f cdv)) →
      L2N.Takes (cxD P w K mg base N qual scope f cdv A outer s H E) (fun cls d _ H => E cls d H) →
      ∃ wb, DSs G (cxD P w K mg base N qual scope f cdv A outer s H E) body wb ∧ ∀ (j : Int) Q E' so ns i h m c, W [.sto, .int j] Q E' → 0 ≤ i → 0 ≤ h → wb (bodyEndsS so ns Q) (.ow so (stoD ns i h m c) :: .sh (.int j) :: List.replicate (N.length - 2) .un) noE) :
    FD P w K mg base (k + 1) x ps.length W := by
  refine ⟨hW, f, fd, ps, rfl, hm, F.kp, ?_, F.bindsN hbd⟩
  refine F.ok S (fun vs H Q E h => ?_) (fun cdv A outer s H vs Q E hr h => ?_)
  · obtain ⟨so, B, ds, ln, _, _, hv, _⟩ := h
    exact hv.len.trans ln
  · obtain ⟨so, B, ds, ln, e, st, hv, hw⟩ := h
    obtain ⟨j, rfl⟩ := hWs _ _ _ hw
    obtain ⟨va, vb, rfl, q1, q2⟩ := hv.two
    cases q2
    cases q1 with
    | @sto s0 hso =>
      subst hso
      obtain ⟨s1, l, ns, i, hh, m, c, s2, s3, s4, s5⟩ := st s0 rfl
      obtain ⟨wb, d, hwb⟩ := hb cdv A outer s H E ⟨K, none, B, fun a => if a = s0 then none else H a, fun _ => E⟩ rfl rfl hr (L2N.takes_of rfl rfl rfl rfl)
      have hq := hwb j _ _ s0 ns i hh m c hw s4 s5
      refine ⟨_, d.ps, .ow s0 (stoD ns i hh m c) :: .sh (.int j) :: List.replicate (N.length - 2) .un, [], ⟨?_, B, ?_⟩, d.mono hq ⟨fun ρ' ⟨⟨y, cv, q⟩, i', h', m', c', e1, e2, e3⟩ l σ' H' A' => ?_, fun z ρ' ⟨⟨y, cv, q⟩, i', h', m', c', e1, e2, e3⟩ nz l v σ' H' A' => ?_, fun _ z => z.elim, fun _ z => z.elim⟩ (fun _ _ z => z.elim)⟩
      · unfold L2.start
        simp only [List.length_cons, List.length_append, List.length_map, List.length_replicate, List.length_nil]
        omega
      · rw [List.append_nil]
        unfold L2.start
        show Rel _ ((some (V.ref s0), Sl.ow s0 (stoD ns i hh m c)) :: (some (V.int j), Sl.sh (.int j)) :: (List.replicate (N.length - 2) (none : Option V)).zip (List.replicate (N.length - 2) Sl.un)) H B
        have f2 : ∀ n m, ∀ r ∈ (List.replicate n (none : Option V)).zip (List.replicate m Sl.un), r = (none, Sl.un) := by
          intro n m r hr
          obtain ⟨a1, a2⟩ := List.of_mem_zip hr
          obtain ⟨x1, x2⟩ := r
          rw [show x1 = none from (List.mem_replicate.mp a1).2, show x2 = Sl.un from (List.mem_replicate.mp a2).2]
        have f3 : ∀ l : Roots, (∀ r ∈ l, r = (none, Sl.un)) → feet l = [] := by
          intro l
          induction l with
          | nil => intro _; rfl
          | cons r l ih => intro h; rw [feet_cons, h r List.mem_cons_self, ih fun q hq => h q (List.mem_cons_of_mem _ hq)]; rfl
        have f4 := f3 _ (f2 (N.length - 2) (N.length - 2))
        refine ⟨Same.refl _, e, fun a o ea _ => ?_, fun a xs q _ => by show B a ≠ none; rw [q]; exact Option.some_ne_none _, fun r hr => ?_, ?_, fun q hq => ?_, fun s es => by cases es⟩
        · have ea' : (if a = s0 then none else H a) = some o := ea
          split at ea'
          · cases ea'
          · exact ea'
        · rcases List.mem_cons.mp hr with rfl | hr
          · exact ⟨rfl, _, s2, .cons (.scr s3) (.cons (.int _) (.cons (.int _) (.cons (.int _) (.cons (.int _) .nil))))⟩
          · rcases List.mem_cons.mp hr with rfl | hr
            · exact .int j
            · rw [f2 _ _ r hr]; trivial
        · rw [feet_cons, feet_cons, f4]; simp [Sl.foot]
        · rw [feet_cons, feet_cons, f4] at hq
          have eq : q = s0 := by simpa [Sl.foot] using hq
          subst eq
          exact ⟨s1, if_pos rfl, fun z => by cases z⟩
      · have A2 : At ⟨K, none, B, fun a => if a = s0 then none else H a, fun _ => E⟩ σ' ρ' [(some .non, .sh .non)] H' := by
          obtain ⟨B', r'⟩ := A'.rel
          exact At.addSh (τ := []) A'.len r' .non
        exact q (cv.ne (fun z => by cases z)) .non H' (cv.rel (R := []) (sto_back A2 e1 e2 e3))
      · exact q (cv.ne nz) v H' (cv.rel (R := []) (sto_back A' e1 e2 e3))
theorem feet_none : ∀ {R : Roots}, (∀ r ∈ R, r.2.foot = []) → feet R = []
  | [], _ => rfl
  | r :: R, h => by rw [feet_cons, h r List.mem_cons_self, feet_none fun q hq => h q (List.mem_cons_of_mem _ hq)]; rfl
/-- the law: its first statement makes the store -/
theorem law_ok {N : List Str} {k : Nat} {st : Stmt} {rest : List Stmt} {we : DT Sl} {u : DS} (F : FunD K x qual params (st :: rest) scope [] [] f fd) (S : FnScope N ["_law_script"] scope) (sp : Sp) (hsp : ∀ vs H Q E, sp vs H Q E → ∃ (p : Addr) (ns : List Int), vs = [.ref p] ∧ SqL K H p (ns.map V.int) ∧ ∀ H', Q (.bl true) H')
    (hrest : ∀ (cdv : Value) (A : Around) (outer : List Env) (s : Shared) (H : Hp) (E : XK), Room k (A.deeper (envOfC qual scope s.heap.objs.size f cdv)) →
      L2N.Takes (cxD P w K mg base N qual scope f cdv A outer s H E) (fun cls d _ H => E cls d H) → ∀ G : Gx, G.K = K → G.EX = (fun _ => E) →
      DSt G (cxD P w K mg base N qual scope f cdv A outer s H E) st (wSet 1 we) ∧ DSs G (cxD P w K mg base N qual scope f cdv A outer s H E) rest u) (hmw : Mono we)
    (h1 : ∀ ns, we (entry N.length [.scr ns]) (fun z ρ1 => ρ1 = entry N.length [.scr ns] ∧ ∃ q m, z = .ow q [.lst (ns.map .int), .int 0, .int 0, .int m, .int 0]) noE)
    (h2 : ∀ ns, u ⟨fun _ => False, fun z _ => z = .sh (.bl true), fun _ => False, fun _ => False⟩ ((entry N.length [.scr ns]).set 1 (.sh .sto)) noE) (hN : 2 ≤ N.length) :
    FnOk P w K mg base (L2N.CX P w) (k + 1) f fd ["_law_script"] sp := by
  refine F.ok S (fun vs H Q E h => ?_) (fun cdv A outer s H vs Q E hr h => ?_)
  · obtain ⟨p, ns, rfl, _⟩ := hsp _ _ _ _ h; rfl
  · obtain ⟨p, ns, rfl, hs, hQ⟩ := hsp _ _ _ _ h
    have key := hrest cdv A outer s H E hr (L2N.takes_of rfl rfl rfl rfl)
    have el : (entry N.length [D.scr ns]).length = N.length := by
      unfold entry
      simp only [List.length_append, List.length_map, List.length_replicate, List.length_cons, List.length_nil]
      omega
    have es : ∀ y ∈ entry N.length [D.scr ns], y = .sh (.scr ns) ∨ y = .un := fun y hy => by
      unfold entry at hy
      rcases List.mem_append.mp hy with hy | hy
      · exact .inl (by simpa using hy)
      · exact .inr (List.mem_replicate.mp hy).2
    refine ⟨_, pss_cons (key ⟨K, none, H, H, fun _ => E⟩ rfl rfl).1.ps (⟨fun pins s1 σ1 H1 D I ⟨G, g1, g2, h⟩ => (key G g1 g2).2.ps.run pins s1 σ1 H1 D I h⟩ : PSs _ rest fun D σ1 H1 => ∃ G : Gx, G.K = K ∧ G.EX = (fun _ => E) ∧ tS G u D σ1 H1), ?_⟩
    refine ⟨entry N.length [.scr ns], [], ⟨start_entry rfl, H, ?_⟩, hmw (fun z ρ1 k => ?_) (fun _ _ z => z.elim) (h1 ns)⟩
    · rw [List.append_nil]
      refine Rel.entry (Same.refl _) (fun r hr => ?_) (feet_none fun r hr => ?_) (fun s es => by cases es)
      · obtain ⟨r1, r2⟩ := r
        have e0 : L2.start N [V.ref p] = some (.ref p) :: List.replicate (N.length - 1) none := rfl
        have e1 : entry N.length [D.scr ns] = .sh (.scr ns) :: List.replicate (N.length - 1) .un := rfl
        rw [e0, e1, List.zip_cons_cons] at hr
        rcases List.mem_cons.mp hr with eq | hr
        · cases eq; exact .scr hs
        · have e2 : r2 = .un := (List.mem_replicate.mp (List.of_mem_zip hr).2).2
          rw [e2]; cases r1 <;> trivial
      · obtain ⟨r1, r2⟩ := r
        rcases es r2 (List.of_mem_zip hr).2 with e | e <;> rw [e] <;> rfl
    · obtain ⟨rfl, q, m, rfl⟩ := k
      refine fun l σ1 H1 A1 => ?_
      obtain ⟨L, R, v, g1, g2, g3⟩ := zip_split (i := 1) A1.len (List.getElem?_set_self (by rw [el]; omega))
      obtain ⟨B1, r1⟩ := A1.rel
      rw [List.append_nil, g2] at r1
      have z := r1.rep (v, _) (List.mem_append_right _ List.mem_cons_self)
      have ha := r1.ap q (mem_feet (r := (v, _)) (List.mem_append_right _ List.mem_cons_self) (by simp [Sl.foot]))
      cases v with
      | none => exact z.elim
      | some v =>
        obtain ⟨rfl, vs, z1, z2⟩ : v = .ref q ∧ ∃ vs, H1 q = some (.lst vs) ∧ Rps K none B1 vs [.lst (ns.map .int), .int 0, .int 0, .int m, .int 0] := z
        have g4 := g3 (.sh .sto)
        rw [List.set_set] at g4
        refine ⟨⟨K, some q, B1, H1, fun _ => E⟩, rfl, rfl, (entry N.length [.scr ns]).set 1 (.sh .sto), [], ⟨by rw [List.length_set]; have := A1.len; rw [List.length_set] at this; exact this, B1, ?_⟩, (key ⟨K, some q, B1, H1, fun _ => E⟩ rfl rfl).2.mono (h2 ns) ⟨fun _ z => z.elim, fun x ρ2 k nx l v σ2 H2 A2 => ?_, fun _ z => z.elim, fun _ z => z.elim⟩ (fun _ _ z => z.elim)⟩
        · rw [List.append_nil]
          refine Rel.entry r1.hi (fun r hr => ?_) (feet_none fun r hr => ?_) (fun s es => ?_)
          · rw [g4] at hr
            rcases List.mem_append.mp hr with hr | hr
            · exact (r1.rep r (List.mem_append_left _ hr)).so
            · rcases List.mem_cons.mp hr with rfl | hr
              · exact .sto rfl
              · exact (r1.rep r (List.mem_append_right _ (List.mem_cons_of_mem _ hr))).so
          · obtain ⟨q1, q2⟩ := r
            rcases List.mem_or_eq_of_mem_set (List.of_mem_zip hr).2 with e | e
            · rcases es q2 e with e | e <;> rw [e] <;> rfl
            · rw [e]; rfl
          · cases es
            refine ⟨ha.1, ?_⟩
            cases z2 with
            | cons y1 z2 => cases y1 with
              | @lst pl ws _ hl hw => cases z2 with
                | cons y2 z2 => cases y2; cases z2 with
                  | cons y3 z2 => cases y3; cases z2 with
                    | cons y4 z2 => cases y4; cases z2 with
                      | cons y5 z2 => cases y5; cases z2; exact ⟨pl, ns, 0, 0, m, 0, z1, .inl (.inl (by rw [hw.ints_of] at hl; exact hl)), by omega, by omega⟩
        · have k' : x = .sh (.bl true) := k
          subst k'
          obtain ⟨B2, r2⟩ := A2.rel
          have rv : Rp K (some q) B2 v (.bl true) := r2.rep (some v, .sh (.bl true)) (by simp)
          cases rv
          exact hQ H2
end
end DL
set_option Elab.async false
set_option maxRecDepth 100000
set_option maxHeartbeats 4000000
set_option linter.unusedVariables false
/-! list(reversed(xs)) over the layer -/
namespace DL
open PySem PySem.Spec PyProof.Rows L2 NdefX
section
variable {prog : Program} {w : World} {A : Around} {s : Shared} {R : Result → Shared → Prop}
theorem ext_rev {it l : Addr} {items : Array Value} (hh : A.handled = none) (hit : s.heap.IsRevIter it l ((items.size : Int) - 1)) (hl : s.heap.IsList l items) (hne : l ≠ it) (hn : items.size ≤ sizeLine) (S : Addr) (res : Value) (c0 : Nat) (hSi : S ≠ it) (hSl : S ≠ l)
    (hS : s.heap.get? S = some { cls := .type "list", data := .seq #[] c0 })
    (hR : ∀ (h' : Heap) (tk : Nat) (acc : Array Value) (c' : Nat), (∀ b o, b ≠ it → b ≠ S → s.heap.get? b = some o → h'.get? b = some o) → h'.get? S = some { cls := .type "list", dict := none, data := .seq acc c', slots := #[] } →
      ItemsOf (fun i v => items[items.size - 1 - i]? = some v) acc items.size → R (.ok (.ret res)) { s with heap := h', toks := tk }) :
    wpAny (model prog w) A.in1 (Builtin.List.listExtendWith (.ref S) (.ref it) res)
      (fun fin s' => match fin with | .done f => R (.ok f) s' | .again c' => c'.quiet = true ∧ codeAny (model prog w) A c' R s') (fun e s' => R (.error e) s') s := by
  have W := (Walks.listRev (prog := prog) (w := w) (A := A.in1) hh it l hne items).toS
  have nf : S ∉ [it, l] := by simp only [List.mem_cons, List.not_mem_nil, or_false, not_or]; exact ⟨hSi, hSl⟩
  have hT : s.TypeIs (.ref it) "list_reverseiterator" := hit.typeIs
  have h1 : Builtin.List.listSameRef (.ref S) (.ref it) = false := by simp [Builtin.List.listSameRef, hSi]
  unfold Builtin.List.listExtendWith
  refine wpAny_bind (wpAny_typeOf hT ?_)
  rw [if_neg (by rw [h1]; decide)]
  refine wpAny_bind (wpAny_pyIter_revIter hit (wpAny_bind (wpAny_holding ?_)))
  unfold Builtin.List.listLengthHint
  refine wpAny_bind (wpAny_specialOf hT RT.nolen_lri ?_)
  show wpAny _ A.in1 (specialOf (Value.ref it) (Str.ofString "__length_hint__") >>= _) _ _ _
  refine wpAny_bind (wpAny_specialOf hT RT.hint_lri ?_)
  generalize ek : ("list_reverseiterator.__length_hint__" : String) = key
  wp_delta
  rw [show splitId key = some ("list_reverseiterator", "__length_hint__") from by subst ek; decide +kernel]
  subst ek
  refine wpAny_bind (wpAny_isInstance (b := true) hT (by rw [isSubtype_type]; kernel_rfl) (wpAny_pure ?_))
  rw [if_neg (by decide)]
  have e0 : ((items.size : Nat) : Int) - 1 - ((0 : Nat) : Int) = (items.size : Int) - 1 := by omega
  refine wpAny_pure ⟨plainId_quiet F.plain_extend_loop _, codeAny_extend_loopS W hn _ nf _ items.size 0 _ _ _ rfl (Nat.zero_le _) ⟨Nat.zero_le _, by rw [e0]; exact hit, hl⟩ hS (ItemsOf.nil _) fun s' acc c' hm hS' ha => ?_⟩
  rw [Moved.eq_with hm]
  refine hR s'.heap s'.toks acc c' (fun b o hb hb2 e => hm.heap b o (fun hmem => ?_) e) hS' ha
  rcases List.mem_cons.mp hmem with e' | hmem
  · exact hb2 e'
  · exact hb (List.mem_singleton.mp hmem)
theorem init_rev {it l : Addr} {items : Array Value} (hh : A.handled = none) (hit : s.heap.IsRevIter it l ((items.size : Int) - 1)) (hl : s.heap.IsList l items) (hne : l ≠ it) (hn : items.size ≤ sizeLine) (S : Addr) (hSi : S ≠ it) (hSl : S ≠ l)
    (hS : s.heap.get? S = some { cls := .type "list", data := .seq #[] })
    (hR : ∀ (h' : Heap) (tk : Nat) (acc : Array Value) (c' : Nat), (∀ b o, b ≠ it → b ≠ S → s.heap.get? b = some o → h'.get? b = some o) → h'.get? S = some { cls := .type "list", dict := none, data := .seq acc c', slots := #[] } →
      ItemsOf (fun i v => items[items.size - 1 - i]? = some v) acc items.size → R (.ok (.ret .none)) { s with heap := h', toks := tk }) :
    wpAny (model prog w) A.in1 (Builtin.«list.__init__» ⟨[.ref S, .ref it], []⟩)
      (fun fin s' => match fin with | .done f => R (.ok f) s' | .again c' => c'.quiet = true ∧ codeAny (model prog w) A c' R s') (fun e s' => R (.error e) s') s := by
  show wpAny _ A.in1 (do let old ← Builtin.List.listItems (.ref S); Builtin.List.listUpdate (.ref S) (fun _ => #[]); letGo old.toList.reverse; Builtin.List.listExtendWith (.ref S) (.ref it) .none) _ _ s
  refine wpAny_bind ?_
  unfold Builtin.List.listItems
  refine wpAny_bind (wpAny_seqItems hS rfl (wpAny_pure ?_))
  show wpAny _ A.in1 (updateSeq S (fun _ => #[]) >>= fun _ => letGo (#[] : Array Value).toList.reverse >>= fun _ => Builtin.List.listExtendWith (.ref S) (.ref it) .none) _ _ s
  refine wpAny_bind (wpAny_updateSeq hS rfl (wpAny_bind (wpAny_letGo ?_)))
  have hS2 := Heap.get?_update_self (Obj.mapSeq (fun _ => (#[] : Array Value))) hS rfl
  have oth : ∀ b o, b ≠ S → s.heap.get? b = some o → (s.heap.update S (Obj.mapSeq (fun _ => (#[] : Array Value)))).get? b = some o := fun b o hb e => (Heap.get?_update_other _ _ (Ne.symm hb)).trans e
  obtain ⟨ol, hol, hlc, n0, hld⟩ := hl
  refine ext_rev (s := { s with heap := s.heap.update S (Obj.mapSeq (fun _ => (#[] : Array Value))) }) hh (hit.at fun o e => oth _ _ (Ne.symm hSi) e) ⟨ol, oth _ _ (Ne.symm hSl) hol, hlc, n0, hld⟩ hne hn S .none _ hSi hSl hS2 fun h' tk acc c' k e2 ha => ?_
  exact hR h' tk acc c' (fun b o hb hb2 e => k b o hb hb2 (oth b o hb2 e)) e2 ha
theorem call_list_rev {E : Value → Shared → Prop} {it l : Addr} {items : Array Value} {Q : Value → Shared → Prop} (hh : A.handled = none) (hit : s.heap.IsRevIter it l ((items.size : Int) - 1)) (hl : s.heap.IsList l items) (hne : l ≠ it) (hn : items.size ≤ sizeLine)
    (hQ : ∀ (h' : Heap) (tk : Nat) (acc : Array Value) (c' : Nat), (∀ b o, b ≠ it → s.heap.get? b = some o → h'.get? b = some o) → h'.get? s.heap.objs.size = some { cls := .type "list", dict := none, data := .seq acc c', slots := #[] } →
      ItemsOf (fun i v => items[items.size - 1 - i]? = some v) acc items.size → Q (.ref s.heap.objs.size) { s with heap := h', toks := tk }) :
    wpAny (model prog w) A (call (.type "list") [.ref it]) Q E s := by
  refine callType_codes (Q₁ := fun obj s₁ => obj = .ref s.heap.objs.size ∧ s₁ = { s with heap := s.heap.push { cls := .type "list", data := .seq #[] } }) F.called_list (F.typeCall_list_1 _) F.entry_list_init
    (code_list_new _ ⟨rfl, rfl⟩) fun obj s1 h1 => ?_
  obtain ⟨rfl, rfl⟩ := h1
  obtain ⟨oi, hoi, _⟩ := id hit
  obtain ⟨ol, hol, _⟩ := id hl
  have hS : (s.heap.push { cls := .type "list", data := .seq #[] }).get? s.heap.objs.size = some { cls := .type "list", data := .seq #[] } := Heap.get?_push_size _ rfl
  refine ⟨⟨_, hS, rfl⟩, F.args_list_init_2 _ _, init_rev (A := A.in1) (s := { s with heap := s.heap.push { cls := .type "list", data := .seq #[] } }) (show A.in1.handled = none from hh) (hit.at fun o e => Heap.get?_push_of_some _ e) (hl.push _) hne hn _ (Nat.ne_of_gt (Heap.lt_size hoi)) (Nat.ne_of_gt (Heap.lt_size hol)) hS fun h' tk acc c' k e2 ha => ?_⟩
  exact ⟨rfl, hQ h' tk acc c' (fun b o hb e => k b o hb (Nat.ne_of_lt (Heap.lt_size e)) (Heap.get?_push_of_some _ e)) e2 ha⟩
end
section
variable {X : Cx}
def tListRev (K : PySem.W.Frag) (te : TE) : TE := fun σ H Q => te σ H fun v H1 => ∃ (a : Addr) (xs : List V), v = .ref a ∧ SqL K H1 a xs ∧ ∀ q, H1 q = none → Q (.ref q) (upd H1 q (.lst xs.reverse))
theorem pe_listRev {e : Expr} {te : TE} {p p2 pos pos2 : Pos} (hc : X.calm = true) (hm : X.mg "list" = none) (hm2 : X.mg "reversed" = none) (he : PE X e te) (hg : Gl X "list") (hg2 : Gl X "reversed")
    (hs : starEach [e] X.env = (false, eval e X.env) :: starEach [] X.env)
    (hs2 : starEach [.Call (.Name "reversed" p2) [e] [] pos2] X.env = (false, eval (.Call (.Name "reversed" p2) [e] [] pos2) X.env) :: starEach [] X.env) :
    PE X (.Call (.Name "list" p) [.Call (.Name "reversed" p2) [e] [] pos2] [] pos) (tListRev X.K te) := by
  refine ⟨fun pins s σ H Q I h => ?_⟩
  refine Call_ (ld_blt I hg hm (show bootBuiltins "list" = some (.type "list") by decide +kernel) (PyProof.Rows.callWith_type1 (args_cons (Call_ (ld_blt I hg2 hm2 PyProof.Rows.boot_reversed (PyProof.Rows.callWith_type1 (args_cons (thn (he.run pins s σ H _ I h) fun u s1 ⟨v, H1, I1, r1, q1⟩ => args_nil ?_) hs) hs rfl))) hs2) hs2 rfl))
  obtain ⟨a, xs, rfl, hq, q⟩ := q1
  obtain rfl : u = Value.ref a := r1
  obtain ⟨its, rv, pl, hz⟩ := I1.list hq
  have lst := pl.isList
  refine call_reversed_list lst (args_nil ?_)
  obtain ⟨ol, hol, _⟩ := id lst
  refine call_list_rev (s := { s1 with heap := s1.heap.push (revObj a ((its.toArray.size : Int) - 1)) }) (I1.ok.hd hc) ⟨_, Heap.get?_push_size _ rfl, rfl, rfl⟩ (lst.push _) (Nat.ne_of_lt (Heap.lt_size hol)) (by rw [List.size_toArray, ← rv.length]; exact hz) fun h' tk acc c' k e2 ha => ?_
  have h1 : ∀ b o, s1.heap.get? b = some o → h'.get? b = some o := fun b o e => k b o (Nat.ne_of_lt (Heap.lt_size e)) (Heap.get?_push_of_some _ e)
  have sz : s1.heap.objs.size ≤ (s1.heap.push (revObj a ((its.toArray.size : Int) - 1))).objs.size := by rw [Heap.size_push]; omega
  exact ⟨.ref _, upd H1 _ (.lst xs.reverse), I1.laid (t' := tk) h1 sz (show ObjOk X.prog X.w _ h' _ (.lst xs.reverse) from ⟨by rw [List.length_reverse]; exact hz, acc.toList, c', RT.vals_rev rv ha, by rw [Array.toArray_toList]; exact e2⟩), rfl, q _ (I1.hok.fresh sz)⟩
end
/-- list(reversed(xs)) -/
def wListRev (w : DT Sl) : DT Sl := fun ρ Q E => w ρ (fun x ρ1 => match x.dat with
  | .lst ds => ∀ p, Q (.ow p ds.reverse) ρ1
  | _ => False) E
section
variable {G : Gx} {X : Cx} {e : Expr} {we : DT Sl} {p p2 pos pos2 : Pos}
theorem de_listRev (hc : X.calm = true) (hK : G.K = X.K) (hm : X.mg "list" = none) (hm2 : X.mg "reversed" = none) (he : DE G X e we) (hg : Gl X "list" := by rfl) (hg2 : Gl X "reversed" := by rfl)
    (hs : starEach [e] X.env = (false, eval e X.env) :: starEach [] X.env := by rfl)
    (hs2 : starEach [.Call (.Name "reversed" p2) [e] [] pos2] X.env = (false, eval (.Call (.Name "reversed" p2) [e] [] pos2) X.env) :: starEach [] X.env := by rfl) :
    DE G X (.Call (.Name "list" p) [.Call (.Name "reversed" p2) [e] [] pos2] [] pos) (wListRev we) := by
  refine ⟨fun _ _ _ _ _ hq h q => he.mono (fun x ρ1 k => ?_) h q, pe_weak (pe_listRev hc hm hm2 he.pe hg hg2 hs hs2) fun σ H Q h => ?_⟩
  · split at k
    · exact fun p => hq _ _ (k p)
    · exact k.elim
  · obtain ⟨ρ, τ, hA, hw⟩ := h
    refine ⟨ρ, τ, hA, he.mono (fun x ρ1 k nx l v H1 A1 => ?_) (fun _ _ e => e) hw⟩
    obtain ⟨B, h1, h2⟩ := A1.still nx
    split at k
    · rename_i ds ex
      rw [ex] at h1
      cases h1 with
      | lst hl hv => exact ⟨_, _, rfl, .inl (.inl (h2.hi _ _ hl)), fun q hq => k q (fun z => by cases z) l _ _ (At.addOw A1.len h2 hq hv.reverse)⟩
    · exact k.elim
end
end DL
set_option Elab.async false
set_option maxRecDepth 100000
set_option maxHeartbeats 4000000
set_option linter.unusedVariables false
/-! what the program's top leaves, as one check and a list of defs -/
namespace DL
open PySem PySem.Spec PyProof.Rows L2 NdefX He

/-! ### the classes of errors -/
def oexB (K : PySem.W.Frag) (C : Addr) : Bool := match K.lookup C with
  | some ⟨.type "type", _, .cls cd, sl⟩ => (match cd.mro, sl.toList with
    | .ref C' :: bm, [_, _, _, _, some (.builtin n), _] => C' == C && (n == "ValueError.__new__" && (!cd.hasDel && (cd.hasDict && PySem.HandSPX.refsVE bm)))
    | _, _ => false)
  | _ => false
theorem oexB_ok {K : PySem.W.Frag} {C : Addr} (h : oexB K C = true) : ∃ nm q N bs bm sn sub ab col dd k0 k1 k2 k3 k5, K.lookup C = some (excClassObj nm q C N bs bm true sn sub ab col dd k0 k1 k2 k3 k5 "ValueError.__new__") ∧ PySem.HandSPX.refsVE bm = true := by
  unfold oexB at h
  split at h
  · rename_i dd cd sl e0
    split at h
    · rename_i c1 bm k0 k1 k2 k3 n k5 e1 e2
      simp only [Bool.and_eq_true, beq_iff_eq, Bool.not_eq_true'] at h
      obtain ⟨rfl, rfl, h3, h4, h5⟩ := h
      obtain ⟨nm, bs, mro, ns, qn, hdc, sn, sub, ab, col, del⟩ := cd
      dsimp only at e1 h3 h4
      subst e1 h3 h4
      have e3 : sl = #[k0, k1, k2, k3, some (.builtin "ValueError.__new__"), k5] := by
        obtain ⟨l⟩ := sl
        simp only at e2
        rw [e2]
      subst e3
      exact ⟨nm, qn, ns, bs, bm, sn, sub, ab, col, dd, k0, k1, k2, k3, k5, e0, h5⟩
    · cases h
  · cases h
def eqOV (a b : Option Value) : Bool := decide (a = b)
theorem eqOV_ok {a b : Option Value} (h : eqOV a b = true) : a = b := of_decide_eq_true h
/-- any own class of errors -/
def errB (K : PySem.W.Frag) (c : Str) : Bool :=
  (Fa.glo c).ok K && (PySem.W.keepIn K (.ref (ga K c)) && (exkB K (ga K c) && eqOB (PySem.W.exmOne K (.ref (ga K c)) (.ref (ga K "ShadeError")))))
where eqOB (o : Option Bool) : Bool := decide (o = some true)
theorem errB_ok {K : PySem.W.Frag} {c : Str} (h : errB K c = true) : (Fa.glo c).ok K = true ∧ PySem.W.keepIn K (.ref (ga K c)) = true ∧ ExK K (ga K c) ∧ PySem.W.exmOne K (.ref (ga K c)) (.ref (ga K "ShadeError")) = some true := by
  unfold errB at h
  simp only [Bool.and_eq_true] at h
  exact ⟨h.1, h.2.1, exk_of h.2.2.1, of_decide_eq_true h.2.2.2⟩
/-- the function object of an __init__ that closes over its class -/
def iniF (K : PySem.W.Frag) (file : Str) (C : Addr) : Option Obj → Bool
  | some ⟨_, _, .func fd, _⟩ => decide (fd.defaults = .none) && (decide (fd.kwdefaults = .none) && (decide (fd.annotations = none) && ((match fd.code with
      | .ref cc => PySem.W.codeIn K (.ref cc) fd.qualname && (match K.lookup cc with
        | some ⟨_, _, .fields vs, _⟩ => (match (vs[2]? : Option Value) with | some (Value.str f _) => decide (f = file) | _ => false)
        | _ => false)
      | _ => false) && (match fd.closure with
      | [(_, cl)] => (match K.lookup cl with
        | some ⟨_, _, .cell (some (.ref D)), _⟩ => decide (D = C)
        | _ => false)
      | _ => false))))
  | _ => false
def iniB (K : PySem.W.Frag) (file : Str) (c : Str) : Bool :=
  errB K c && (oexB K (ga K c) && (eqO (PySem.W.findIn K (.ref (ga K c)) "__setattr__") (some (some (.builtin "object.__setattr__"))) && (decide (PySem.W.subIn K (.ref (ga K c)) (.type "BaseException") = some true) && (eqOV (PySem.W.typeIn K (.ref (ga K c))) (some (.type "type")) &&
  (eqO (PySem.W.findIn K (.ref (ga K c)) "__init__") (some (some (.ref (ma K (ga K c) "__init__")))) && (eqOV (PySem.W.typeIn K (.ref (ma K (ga K c) "__init__"))) (some (.type "function")) && (iniF K file (ga K c) (K.lookup (ma K (ga K c) "__init__")) &&
  (decide (PySem.W.mroIn K (ga K c) (.ref (ga K c)) = some true) && (eqO (PySem.W.ks_superIn K (ga K c) (ga K c) "__init__") (some (some (.builtin "ValueError.__init__"))) && (decide (PySem.W.subIn K (.ref (ga K c)) (.type "ValueError") = some true) &&
  (eqO (PySem.W.findIn K (.ref (ga K c)) (fieldOf c)) (some none) && xfB K (ga K c))))))))))))

/-! ### defs, told with the names they close over -/
abbrev FnV : Type := Option (Str × Str × Arguments × FuncBody × Scope × Addr × List Str × Addr)
def fnV (K : PySem.W.Frag) (p : Str × Option Str) : FnV := match K.lookup (fAd K p) with
  | some ⟨_, _, .func fd, _⟩ => some (fd.name, fd.qualname, fd.params, fd.body, fd.scope, fd.globals, fd.closure.map (·.1), fd.builtins)
  | _ => none
structure DefV where
  d : DefD
  free : List Str := []
def DefV.val (v : DefV) : FnV := some (v.d.name, v.d.qual, v.d.params, .stmts v.d.body, v.d.scope, mainGlobals, v.free, builtinsNs)
def DefV.ok (K : PySem.W.Frag) (v : DefV) : Bool := match v.free with
  | [] => v.d.ok K
  | _ => true
theorem DefV.funD {K : PySem.W.Frag} {d : DefD} (e : fnV K d.at_ = DefV.val ⟨d, []⟩) (c : d.ok K = true) : ∃ fd, FunD K d.name d.qual d.params d.body d.scope (d.dvs K) (d.kws K) (fAd K d.at_) fd := by
  refine DefD.funD ?_ c
  unfold fnV at e
  unfold fnW
  split at e
  · rename_i oc od fd osl q
    rw [q]
    have e2 : (some (fd.name, fd.qualname, fd.params, fd.body, fd.scope, fd.globals, fd.closure.map (·.1), fd.builtins) : FnV) = some (d.name, d.qual, d.params, .stmts d.body, d.scope, mainGlobals, [], builtinsNs) := e
    simp only [Option.some.injEq, Prod.mk.injEq] at e2
    obtain ⟨h1, h2, h3, h4, h5, h6, h7, h8⟩ := e2
    have h9 : fd.closure = [] := List.map_eq_nil_iff.mp h7
    show (some (fd.name, fd.qualname, fd.params, fd.body, fd.scope, fd.globals, fd.closure, fd.builtins) : FnW) = some (d.name, d.qual, d.params, .stmts d.body, d.scope, mainGlobals, [], builtinsNs)
    rw [h1, h2, h3, h4, h5, h6, h8, h9]
  · cases e
/-- the Hook -/
abbrev AlP : Type := Bool × List FnV
def obsP (ck : PySem.W.Frag → Bool) (fn : List DefV) (K : PySem.W.Frag) : AlP := (ck K && fn.all fun d => d.ok K, fn.map fun d => fnV K d.d.at_)
def valP (fn : List DefV) : AlP := (true, fn.map DefV.val)
def SaysP (ck : PySem.W.Frag → Bool) (fn : List DefV) (K : PySem.W.Frag) : Prop := obsP ck fn K = valP fn
/-- the addresses that are looked at -/
def asP (g : Addr → Option Obj) (n : Nat) : List Addr := cStatics :: asD g n
def obsPG (n : Nat) (ck : PySem.W.Frag → Bool) (fn : List DefV) (g : Addr → Option Obj) : AlP := obsP ck fn (frG g (asP g n))
def hookP (n : Nat) (ck : PySem.W.Frag → Bool) (fn : List DefV) : PySem.W.Hook where
  α := AlP
  obs := fun s => obsPG n ck fn s.heap.get?
  val := fun _ => valP fn
  says := fun _ h => ∃ K : PySem.W.Frag, K.In h ∧ SaysP ck fn K
  of := fun _ _ e => ⟨_, frG_in, e⟩
  keeps := fun _ _ _ ⟨K, hK, c⟩ k => ⟨K, PySem.W.Frag.In.keeps hK k, c⟩
theorem obsPG_eq {n : Nat} {ck : PySem.W.Frag → Bool} {fn : List DefV} {g : Addr → Option Obj} {s : Shared} (h : ∀ a, g a = s.heap.get? a) : obsPG n ck fn g = (hookP n ck fn).obs s := by
  have e : g = s.heap.get? := funext h
  rw [e] <;> rfl
section
variable {ck : PySem.W.Frag → Bool} {fn : List DefV} {K : PySem.W.Frag}
theorem SaysP.chk (c : SaysP ck fn K) : ck K = true := (Bool.and_eq_true_iff.mp (show (ck K && fn.all fun d => d.ok K) = true from congrArg (fun z : AlP => z.1) c)).1
theorem SaysP.val (c : SaysP ck fn K) (i : Nat) {d : DefV} (h : fn[i]? = some d := by rfl) : fnV K d.d.at_ = d.val := by
  have e : (fn.map fun d => fnV K d.d.at_) = fn.map DefV.val := congrArg (fun z : AlP => z.2) c
  have e2 : (fn.map fun d => fnV K d.d.at_)[i]? = (fn.map DefV.val)[i]? := by rw [e]
  rw [List.getElem?_map, List.getElem?_map, h] at e2
  exact Option.some.inj e2
theorem SaysP.def_ (c : SaysP ck fn K) (i : Nat) {d : DefD} (h : fn[i]? = some ⟨d, []⟩ := by rfl) : ∃ fd, FunD K d.name d.qual d.params d.body d.scope (d.dvs K) (d.kws K) (fAd K d.at_) fd := by
  have c2 := (Bool.and_eq_true_iff.mp (show (ck K && fn.all fun d => d.ok K) = true from congrArg (fun z : AlP => z.1) c)).2
  exact DefV.funD (c.val i h) (List.all_eq_true.mp c2 _ (List.mem_of_getElem? h))
end
/-- such an __init__, as sup_ok wants it -/
theorem supC_of {P : Program} {K : PySem.W.Frag} {c nm qual : Str} {params : Arguments} {body : List Stmt} {scope : Scope} (hi : iniB K P.main.file c = true) (hv : fnV K (c, some "__init__") = (some (nm, qual, params, FuncBody.stmts body, scope, mainGlobals, ["__class__"], builtinsNs) : FnV))
    (hany : eqO (PySem.W.nsIn K cStatics "thirdparty.any") (some none) = true) (htop : (P.main.scope.names.lookup ("super" : Str)).isSome = false) :
    ∃ (F : NF) (doc pm ctv : Value), F.name = nm ∧ F.params = params ∧ F.body = body ∧ F.scope = scope ∧ SupC P K (ga K c) (ma K (ga K c) "__init__") F doc pm ctv ∧
      PySem.W.findIn K (.ref (ga K c)) "__init__" = some (some (.ref (ma K (ga K c) "__init__"))) ∧ PySem.W.typeIn K (.ref (ma K (ga K c) "__init__")) = some (.type "function") ∧ XfK K c := by
  unfold iniB at hi
  simp only [Bool.and_eq_true] at hi
  obtain ⟨h1, h2, h3, h4, h5, h6, h7, h8, h9, h10, h11, h12, h13⟩ := hi
  obtain ⟨e1, e2, e3, e4⟩ := errB_ok h1
  unfold fnV at hv
  unfold iniF at h8
  have ea : fAd K (c, some "__init__") = ma K (ga K c) "__init__" := rfl
  rw [ea] at hv
  cases q : K.lookup (ma K (ga K c) "__init__") with
  | none => rw [q] at hv; cases hv
  | some o =>
    obtain ⟨oc, od, dt, osl⟩ := o
    rw [q] at hv h8
    cases dt with
    | func fd =>
      obtain ⟨n1, n2, n3, n4, n5, n6, n7, n8, n9, n10, n11, n12, n13, n14, n15⟩ := fd
      have e5 : (some (n1, n2, n3, n4, n5, n6, n7.map (·.1), n15) : FnV) = some (nm, qual, params, FuncBody.stmts body, scope, mainGlobals, [Str.ofString "__class__"], builtinsNs) := hv
      simp only [Option.some.injEq, Prod.mk.injEq] at e5
      obtain ⟨r1, r2, r3, r4, r5, r6, r7, r8⟩ := e5
      subst r1 r2 r3 r4 r5 r6 r8
      simp only [Bool.and_eq_true, decide_eq_true_eq] at h8
      obtain ⟨g1, g2, g3, g4, g5⟩ := h8
      subst g1 g2 g3
      split at g4
      · rename_i cc
        simp only [Bool.and_eq_true] at g4
        obtain ⟨g6, g7⟩ := g4
        split at g7
        · rename_i ccl cdd vs ccs qc
          split at g7
          · rename_i f tf qf
            have ef : f = P.main.file := of_decide_eq_true g7
            split at g5
            · rename_i x cl
              split at g5
              · rename_i o1 o2 D o3 qd
                have eD : D = ga K c := of_decide_eq_true g5
                subst eD
                have ex : x = "__class__" := by simpa using r7
                subst ex
                refine ⟨⟨n1, n2, n3, _, n5, [("__class__", cl)], cc⟩, n10, n11, n14, rfl, rfl, rfl, rfl, ⟨⟨oexB_ok h2, eqO_ok h3, of_decide_eq_true h4, eqOV_ok h5, e2⟩, ⟨oc, od, osl, q⟩, ⟨cl, _, _, _, rfl, qd⟩, g6, ⟨ccl, cdd, vs, ccs, f, tf, qc, qf, by rw [ef]; exact beq_self_eq_true _⟩, of_decide_eq_true h9, eqO_ok h10, of_decide_eq_true h11, eqO_ok hany, htop⟩, eqO_ok h6, eqOV_ok h7, xfB_ok h13, eqO_ok h12⟩
              · cases g5
            · cases g5
          · cases g7
        · cases g7
      · cases g4
    | _ => cases hv
end DL
set_option Elab.async false
set_option maxRecDepth 100000
set_option maxHeartbeats 4000000
set_option linter.unusedVariables false
/-! data-level layer: what a law's defs lean on: built-in names, the classes of errors; kinds of promises -/
namespace DL
open PySem PySem.Spec PyProof.Rows L2 NdefX
/-- the built-in names that are not bound by the module -/
structure Bt (mg : Str → Option Value) (l : List Str) : Prop where
  all : ∀ x ∈ l, mg x = none
theorem Bt.of {mg : Str → Option Value} {l : List Str} (b : Bt mg l) (x : Str) (h : l.contains x = true := by decide +kernel) : mg x = none := b.all x (by simpa using h)
/-- the classes of errors -/
structure ErF (K : PySem.W.Frag) (mg : Str → Option Value) (cs : List Str) : Prop where
  mg : ∀ c ∈ cs, mg c = some (.ref (He.ga K c))
  ex : ∀ c ∈ cs, ExK K (He.ga K c)
  kit : ∀ c ∈ cs, ∀ e ∈ cs, PySem.W.kitOne K (.ref (He.ga K c)) (.ref (He.ga K e)) = some (c == e || e == "ShadeError")
  ve : ∀ c ∈ cs, PySem.W.kitOne K (.ref (He.ga K c)) (.type "ValueError") = some true
  exm : ∀ c ∈ cs, PySem.W.exmOne K (.ref (He.ga K c)) (.ref (He.ga K "ShadeError")) = some true
def isCls (cs : List Str) (e : Str) : D → Option Bool
  | .exc c _ _ _ => if cs.contains c then some (c == e || e == "ShadeError") else none
  | _ => none
def isVE (cs : List Str) : D → Option Bool
  | .exc c _ _ _ => if cs.contains c then some true else none
  | _ => none
def caSE (cs : List Str) : Str → Option Bool := fun c => if cs.contains c then some true else none
section
variable {K : PySem.W.Frag} {mg : Str → Option Value} {cs : List Str}
theorem ErF.is (T : ErF K mg cs) {e : Str} (he : cs.contains e = true) : ∀ d b, isCls cs e d = some b → Isi K d (.ref (He.ga K e)) b := by
  intro d b h
  unfold isCls at h
  split at h
  · rename_i c _ _ _
    split at h
    · rename_i hc
      cases h
      exact ⟨T.ex c (by simpa using hc), T.kit c (by simpa using hc) e (by simpa using he)⟩
    · cases h
  · cases h
theorem ErF.isVE (T : ErF K mg cs) : ∀ d b, DL.isVE cs d = some b → Isi K d (.type "ValueError") b := by
  intro d b h
  unfold DL.isVE at h
  split at h
  · rename_i c _ _ _
    split at h
    · rename_i hc
      cases h
      exact ⟨T.ex c (by simpa using hc), T.ve c (by simpa using hc)⟩
    · cases h
  · cases h
theorem ErF.ca (T : ErF K mg cs) : ∀ x b, caSE cs x = some b → PySem.W.exmOne K (.ref (He.ga K x)) (.ref (He.ga K "ShadeError")) = some b := by
  intro x b h
  unfold caSE at h
  split at h
  · rename_i hc
    cases h
    exact T.exm x (by simpa using hc)
  · cases h
end
/-! ### kinds of promises -/
/-- by a function of data: a value | an error -/
def WF (f : List D → Option (Except Er D)) : DW1 := fun ds Q E => match f ds with
  | some (.ok d) => Q (.sh d)
  | some (.error e) => E e
  | none => False
theorem WF_mono {f : List D → Option (Except Er D)} : MonoW (WF f) := fun ds _ _ _ _ hq he h => by
  unfold WF at h ⊢
  split at h
  · exact hq _ h
  · exact he _ h
  · exact h
/-- by relations: P the arguments, R the results, X the errors -/
def WG (P : List D → Prop) (R : List D → Sl → Prop) (X : List D → Er → Prop) : DW1 := fun ds Q E => P ds ∧ (∀ z, R ds z → Q z) ∧ ∀ e, X ds e → E e
theorem WG_mono {P : List D → Prop} {R : List D → Sl → Prop} {X : List D → Er → Prop} : MonoW (WG P R X) := fun ds _ _ _ _ hq he h => ⟨h.1, fun z r => hq _ (h.2.1 z r), fun e r => he _ (h.2.2 e r)⟩
def noX : List D → Er → Prop := fun _ _ => False
/-- an ending by the value itself -/
theorem bodyR {Q : Sl → Prop} {x : Sl} (h : Q x) : ∃ y, Cv x y ∧ Q y := ⟨x, .refl x, h⟩
theorem bodySh {Q : Sl → Prop} {x : Sl} (hx : x ≠ .un) (h : Q (.sh x.dat)) : ∃ y, Cv x y ∧ Q y := ⟨_, .sh x hx, h⟩
theorem takes_no {X : Cx} : L2N.Takes X (fun _ _ _ _ => False) := fun _ _ ⟨_, _, _, _, _, _, _, _, _, _, _, _, _, _, _, _, z⟩ => z.elim
theorem hot_of {A : Around} {a : Addr} {oe : Obj} (h : PXN.CtxN oe) (hf : ∃ vs, oe.data = .fields vs) : L2H.Hot1 (A.mark (some (.ref a))) (a, oe) := ⟨rfl, by obtain ⟨vs, e⟩ := hf; exact ⟨vs, e, h vs e⟩⟩
theorem room_mark {k : Nat} {A : Around} (r : Room k A) (h : Option Value) : L2H.RoomH k (A.mark h) := ⟨r.dp, r.un⟩
theorem roomH_units {k : Nat} {A : Around} (r : L2H.RoomH k A) : A.units + 64 < cLine := by have := r.un; omega
end DL
set_option Elab.async false
set_option maxRecDepth 100000
set_option maxHeartbeats 4000000
set_option linter.unusedVariables false
/-! data-level layer: from the check's facts to promises -/
namespace DL
open PySem PySem.Spec PyProof.Rows L2 NdefX He
section
variable {P : Program} {w : World} {K : PySem.W.Frag} {mg : Str → Option Value} {base : Heap} {x qual : Str} {params : Arguments} {body : List Stmt} {scope : Scope} {f : Addr} {fd : FuncData}
theorem bindsK {ps ks : List Str} {js : List Nat} {kws : List (Str × V)} (F : FunD K x qual params body scope [] kws f fd)
    (h : ∀ (kV doc pm : Value) (an : Option Addr) (cdv ct : Value) (ws : List Value), ws.length = ks.length → bindArgs (PySem.W.fnOf x qual params body scope .none kV doc pm an cdv ct) ⟨[], ks.zip ws⟩ = pure (ps.zip (permL js ws))) :
    ∀ (s : Shared) (ws : List Value), K.In s.heap → ws.length = ks.length → BindsTo s fd ⟨[], ks.zip ws⟩ (ps.zip (permL js ws)) := fun s ws _ hl => by
  obtain ⟨oc, od, dV, kV, doc, pm, an, cdv, ct, osl, rfl, lk, hcd, hD, hK⟩ := F.ex
  rcases hD with ⟨_, rfl⟩ | ⟨e, _⟩
  · exact .of_eq (h kV doc pm an cdv ct ws hl)
  · exact absurd rfl e
theorem fdk_ok {N ps ks : List Str} {js : List Nat} {k : Nat} {W : DW1} (hW : MonoW W) (F : FunD K x qual params body scope [] [] f fd) (S : FnScope N ps scope) (hm : mg x = some (.ref f)) (hlen : ∀ ds Q E, W ds Q E → ds.length = ps.length)
    (hbd : ∀ (kV doc pm : Value) (an : Option Addr) (cdv ct : Value) (ws : List Value), ws.length = ks.length → bindArgs (PySem.W.fnOf x qual params body scope .none kV doc pm an cdv ct) ⟨[], ks.zip ws⟩ = pure (ps.zip (permL js ws)))
    (hb : ∀ (cdv : Value) (A : Around) (outer : List Env) (s : Shared) (H : Hp) (E : XK) (so : Option Addr) (B : Hp), Room k (A.deeper (envOfC qual scope s.heap.objs.size f cdv)) →
      L2N.Takes (cxD P w K mg base N qual scope f cdv A outer s H E) (fun cls d _ H => E cls d H) →
      ∃ wb, DSs ⟨K, so, B, H, fun _ => E⟩ (cxD P w K mg base N qual scope f cdv A outer s H E) body wb ∧ ∀ ds Q E', W ds Q E' → wb (bodyEnds Q) (entry N.length ds) (fun e _ => E' e)) :
    FDK P w K mg base (k + 1) x ps.length ks js W := ⟨hW, f, fd, ps, rfl, hm, F.kp, fn_body F S hlen hb, bindsK F hbd⟩
/-- a promise that asks for what is never so -/
theorem fd_never {ps : List Str} {k : Nat} {W : DW1} (hW : ∀ ds Q E, ¬ W ds Q E) (F : FunD K x qual params body scope [] [] f fd) (hm : mg x = some (.ref f))
    (hbd : ∀ (kV doc pm : Value) (an : Option Addr) (cdv ct : Value) (us : List Value), us.length = ps.length → bindArgs (PySem.W.fnOf x qual params body scope .none kV doc pm an cdv ct) ⟨us, []⟩ = pure (ps.zip us)) : FD P w K mg base k x ps.length W :=
  ⟨fun _ _ _ _ _ _ _ h => (hW _ _ _ h).elim, f, fd, ps, rfl, hm, F.kp, ⟨fun vs H Q E ⟨so, B, ds, ln, _, _, hv, h⟩ => (hW _ _ _ h).elim, fun A outer s H args us vs Q E _ _ _ _ ⟨so, B, ds, ln, _, _, hv, h⟩ => (hW _ _ _ h).elim⟩, F.bindsN hbd⟩
end
section
variable {P : Program} {w : World} {K : PySem.W.Frag} {mg : Str → Option Value} {base : Heap}
/-- an own class of errors, by its checks -/
theorem erc_of {c nm qual y : Str} {params : Arguments} {body : List Stmt} {scope : Scope} {e : Expr} {te : TE} {p0 p1 p2 p3 p4 a1 a2 a3 a4 : Pos} (hi : iniB K P.main.file c = true) (hv : fnV K (c, some "__init__") = (some (nm, qual, params, FuncBody.stmts body, scope, mainGlobals, ["__class__"], builtinsNs) : FnV))
    (hany : eqO (PySem.W.nsIn K cStatics "thirdparty.any") (some none) = true) (htop : (P.main.scope.names.lookup ("super" : Str)).isSome = false) (hmg : mg c = some (.ref (ga K c))) (ms : mg "super" = none)
    (Sc : NScope [("self" : Str), y, "__class__"] [("self" : Str), y] ["__class__"] scope)
    (hbd : body = [.Expr (.Call (.Attribute (.Call (.Name "super" p0) [] [] p1) "__init__" p2) [e] [] p3) p4, .Assign [.Attribute (.Name "self" a1) (fieldOf c) a2] (.Name y a3) a4])
    (hpe : ∀ X : Cx, X.N = [("self" : Str), y, "__class__"] → X.env.scope = scope → PE X e te) (hrd : FsRd te)
    {ar : Arg} (har : (params.posonlyargs ++ params.args).head? = some ar) (harn : ar.arg = "self") (hks : scope.names.lookup ("super" : Str) = some .globalImplicit)
    (hst : ∀ env : Env, starEach [e] env = (false, eval e env) :: starEach [] env)
    (hl : (p2.endLine == p3.line) = true)
    (hyd : (y == ("__debug__" : Str)) = false) (hyc : (y == ("__classdict__" : Str)) = false)
    (hbind : ∀ (n q : Str) (b : List Stmt) (sc : Scope) (cl : List (Str × Addr)) (cc : Addr) (doc pm ctv : Value) (us : List Value), us.length = 2 → bindArgs ((⟨n, q, params, b, sc, cl, cc⟩ : NF).fd doc pm ctv) ⟨us, []⟩ = pure ([("self" : Str), y].zip us)) :
    ErC P w K mg base c ∧ XfK K c := by
  have hev : ∀ env : Env, eval (.Call (.Attribute (.Call (.Name "super" p0) [] [] p1) "__init__" p2) [e] [] p3) env = (do
      let ov ← attributeBase (.Call (.Name "super" p0) [] [] p1) "__init__" env (eval (.Call (.Name "super" p0) [] [] p1) env)
      standAt p2.atName
      let (f, first) ← holding [ov] (getMethod ov "__init__" (pure false))
      callWith p3 f first (backTo p3 (starEach [e] env)) []) := fun env => by
    show (do
      let ov ← attributeBase (.Call (.Name "super" p0) [] [] p1) "__init__" env (eval (.Call (.Name "super" p0) [] [] p1) env)
      standAt p2.atName
      methodCall (.Call (.Name "super" p0) [] [] p1) "__init__" p2 p3 env ov 1 (backTo p3 (starEach [e] env)) []) = _
    congr 1
    funext ov
    congr 1
    funext _
    exact mcall_line (by rw [hst env]; rfl) hl
  obtain ⟨F, doc, pm, ctv, f1, f2, f3, f4, S, h1, h2, h3⟩ := supC_of (P := P) hi hv hany htop
  refine ⟨⟨hmg, S.ox, ma K (ga K c) "__init__", F.fd doc pm ctv, [("self" : Str), y], h1, h2, init_ok S ms (f4 ▸ Sc) (f3.trans hbd) (fun X e1 e2 => hpe X e1 (e2.trans f4)) hrd h3.2 (by rw [f2]; exact har) harn (by rw [f4]; exact hks) hst hev hyd hyc, .all fun us hl => ?_⟩, h3⟩
  obtain ⟨n, q, pr, b, sc, cl, cc⟩ := F
  cases f2
  exact hbind n q b sc cl cc doc pm ctv us hl
/-- the classes of errors, by the checks -/
theorem erF_of {h : Heap} {errs : List Str} (X : K.In h) (G : h.Ns mainGlobals mg) (c1 : (errs.all (errB K)) = true)
    (c3 : (errs.all fun c => errs.all fun e => decide (PySem.W.kitOne K (.ref (ga K c)) (.ref (ga K e)) = some (c == e || e == "ShadeError"))) = true)
    (c4 : (errs.all fun c => decide (PySem.W.kitOne K (.ref (ga K c)) (.type "ValueError") = some true)) = true) : ErF K mg errs := by
  have a1 := fun c hc => errB_ok (List.all_eq_true.mp c1 c hc)
  exact ⟨fun c hc => glo_ok X G (a1 c hc).1, fun c hc => (a1 c hc).2.2.1, fun c hc e he => of_decide_eq_true (List.all_eq_true.mp (List.all_eq_true.mp c3 c hc) e he), fun c hc => of_decide_eq_true (List.all_eq_true.mp c4 c hc), fun c hc => (a1 c hc).2.2.2⟩
theorem bt_of {h : Heap} {l : List Str} (X : K.In h) (G : h.Ns mainGlobals mg) (c : (l.all fun x => (Fa.free x).ok K) = true) : Bt mg l := ⟨fun x hx => free_ok X G (List.all_eq_true.mp c x hx)⟩
/-- where the defs' names point -/
theorem glos_of {h : Heap} {fn : List DefV} (X : K.In h) (G : h.Ns mainGlobals mg) (c : ((fn.filter fun d => d.free.isEmpty).all fun d => (Fa.glo d.d.name).ok K) = true) (i : Nat) {d : DefD} (e : fn[i]? = some ⟨d, []⟩) : mg d.name = some (.ref (ga K d.name)) :=
  glo_ok X G (List.all_eq_true.mp c _ (List.mem_filter.mpr ⟨List.mem_of_getElem? e, rfl⟩))
end
end DL
set_option Elab.async false
set_option maxRecDepth 100000
set_option maxHeartbeats 4000000
set_option linter.unusedVariables false
/-! data-level layer, part l: list comprehensions over one name -/
namespace DL
open PySem PySem.Spec PyProof.Rows L2 NdefX
theorem feet_set_un {v : Option V} : ∀ {l : Roots} {i : Nat}, (feet (l.set i (v, .un))).Sublist (feet l)
  | [], _ => List.Sublist.refl _
  | r :: l, 0 => by
    rw [List.set_cons_zero, feet_cons, feet_cons]
    show (([] : List Addr) ++ feet l).Sublist _
    rw [List.nil_append]
    exact List.sublist_append_right _ _
  | r :: l, i + 1 => by
    rw [List.set_cons_succ, feet_cons, feet_cons]
    exact List.Sublist.append (List.Sublist.refl _) feet_set_un
theorem Rel.sub' {G : Gx} {R R' : Roots} {H B : Hp} (h : Rel G R H B) (hs : ∀ r ∈ R', r ∈ R ∨ r.2 = .un) (hn : (feet R').Nodup) : Rel G R' H B :=
  ⟨h.lo, h.hi, h.fr, h.nw, fun r hr => by
    rcases hs r hr with h1 | h1
    · exact h.rep r h1
    · obtain ⟨r1, r2⟩ := r
      cases h1
      cases r1 <;> trivial, hn, (fun p hp => by
    obtain ⟨r, hr, hq⟩ := List.mem_flatMap.mp hp
    rcases hs r hr with h1 | h1
    · exact h.ap p (mem_feet h1 hq)
    · rw [h1] at hq
      cases hq), h.st⟩
theorem At.perm {G : Gx} {σ : St} {ρ : DEnv} {τ τ' : Roots} {H : Hp} (h : At G σ ρ τ H) (hp : τ'.Perm τ) : At G σ ρ τ' H := by
  obtain ⟨l, B, hr⟩ := h
  have hq : (σ.zip ρ ++ τ').Perm (σ.zip ρ ++ τ) := List.Perm.append_left _ hp
  exact ⟨l, B, hr.perm (fun r hr => hq.subset hr) (hq.flatMap_right _)⟩
/-- a slot forgotten, its value any -/
theorem At.wipe {G : Gx} {σ : St} {ρ : DEnv} {τ : Roots} {H : Hp} (i : Nat) (v : Option V) (h : At G σ ρ τ H) : At G (σ.set i v) (ρ.set i .un) τ H := by
  obtain ⟨l, B, hr⟩ := h
  refine ⟨by rw [List.length_set, List.length_set]; exact l, B, hr.sub' (fun r hr => ?_) ?_⟩
  · rw [set_zip] at hr
    rcases List.mem_append.mp hr with hr | hr
    · rcases List.mem_or_eq_of_mem_set hr with hr | hr
      · exact .inl (List.mem_append_left _ hr)
      · exact .inr (by rw [hr])
    · exact .inl (List.mem_append_right _ hr)
  · rw [set_zip]
    refine List.Nodup.sublist ?_ hr.nd
    rw [feet_append, feet_append]
    exact List.Sublist.append feet_set_un (List.Sublist.refl _)
def wTrue : DT Bool := fun ρ Q _ => Q true ρ
/-- the turns of a comprehension: i the name's slot -/
def lcD (i : Nat) (wt : DT Bool) (we : DT Sl) (Q : List D → DEnv → Prop) : List D → List D → DEnv → Prop
  | [], acc, ρ => Q acc ρ
  | d :: ds, acc, ρ => wt (ρ.set i (.sh d)) (fun b ρ2 => if b = true then we ρ2 (fun y ρ3 => acc.length < sizeLine ∧ lcD i wt we Q ds (acc ++ [y.dat]) (ρ3.set i .un)) noE else lcD i wt we Q ds acc (ρ2.set i .un)) noE
/-- what a slot holds beside the comprehension's name -/
def StillS (x : Sl) : Prop := x = .un ∨ ∃ d, x = .sh d
def wLc (i : Nat) (wi : DT (List D)) (wt : DT Bool) (we : DT Sl) : DT Sl := fun ρ Q E => wi ρ (fun items ρ1 => ∃ x, ρ1[i]? = some x ∧ StillS x ∧ lcD i wt we (fun acc ρ2 => ∀ p, Q (.ow p acc) (ρ2.set i x)) items [] (ρ1.set i .un)) E
theorem lcD_mono {i : Nat} {wt : DT Bool} {we : DT Sl} (ht : Mono wt) (he : Mono we) {Q Q' : List D → DEnv → Prop} (hq : ∀ acc ρ, Q acc ρ → Q' acc ρ) : ∀ (ds acc : List D) (ρ : DEnv), lcD i wt we Q ds acc ρ → lcD i wt we Q' ds acc ρ
  | [], acc, ρ, h => hq _ _ h
  | d :: ds, acc, ρ, h => ht (fun b ρ2 k => by
      by_cases hb : b = true
      · rw [if_pos hb] at k ⊢
        exact he (fun y ρ3 k => ⟨k.1, lcD_mono ht he hq _ _ _ k.2⟩) (fun _ _ z => z) k
      · rw [if_neg hb] at k ⊢
        exact lcD_mono ht he hq _ _ _ k) (fun _ _ z => z) h
theorem pts_true {X : Cx} {G : Gx} : PTs X [] (tDB G wTrue) := ⟨fun pins s σ H Q I h => by
  obtain ⟨ρ, τ, hA, hw⟩ := h
  exact wpAny_tests_nil ⟨H, I, hw rfl H hA⟩⟩
theorem pts_cond {X : Cx} {G : Gx} {c : Expr} {wt : DT Bool} (h : DB G X c wt) : PTs X [c] (tDB G wt) := pts_one h.pt
section
variable {G : Gx} {X : Cx}
theorem lc_data {x : Str} {wi : DT (List D)} {wt : DT Bool} {we : DT Sl} {ti : TI} (i : Nat) (mi : Mono wi) (qi : ∀ σ H R, tDI G wi σ H R → ti σ H R) (mt : Mono wt) (me : Mono we) {σ : L2.St} {H : Hp} {Q : VK} (h : tD G (wLc i wi wt we) σ H Q) :
    tLc ti (gName i) (tDB (G.wish fun _ _ _ _ => False) wt) (tD (G.wish fun _ _ _ _ => False) we) ([(x, i)].map (·.2)) σ H Q := by
  refine qi σ H _ ?_
  obtain ⟨ρ, τ, hA, hw⟩ := h
  refine ⟨ρ, τ, hA, mi (fun items ρ1 k l1 J t H1 A1 hJ => ?_) (fun _ _ e => e) hw⟩
  obtain ⟨y, hy, hst, k⟩ := k
  intro D hD
  have hil : i < ρ1.length := (List.getElem?_eq_some_iff.mp hy).1
  have hw0 : wipe σ ([(x, i)].map (·.2)) = σ.set i none := rfl
  have set2 : ∀ v : Option V, (σ.set i none).set i v = σ.set i v := fun v => List.set_set ..
  have seti : ∀ v : Option V, σ[i]? = some v → σ.set i v = σ := fun v e => by
    obtain ⟨hl, e2⟩ := List.getElem?_eq_some_iff.mp e
    rw [← e2]; exact List.set_getElem_self hl
  -- the roots: what the slot held
  obtain ⟨xr, hxr, hback⟩ : ∃ xr : Roots, At G (σ.set i none) (ρ1.set i .un) (τ ++ xr ++ t) H1 ∧ ∀ ρ2 u H2, At G (σ.set i none) ρ2 (τ ++ xr ++ u) H2 → At G σ (ρ2.set i y) (τ ++ u) H2 := by
    obtain ⟨L, R, v, e1, e2, _⟩ := zip_split A1.len hy
    rcases hst with rfl | ⟨d, rfl⟩
    · refine ⟨[], by rw [List.append_nil]; exact A1.wipe i none, fun ρ2 u H2 A2 => ?_⟩
      rw [List.append_nil] at A2
      have A3 := A2.wipe i v
      rw [set2, seti v e1] at A3
      exact A3
    · obtain ⟨B, hr⟩ := A1.rel
      have z := hr.rep (v, .sh d) (by rw [e2]; simp)
      cases v with
      | none => exact z.elim
      | some v =>
        refine ⟨[(some v, .sh d)], ?_, fun ρ2 u H2 A2 => ?_⟩
        · refine ((At.addSh A1.len hr z).wipe i none).perm ?_
          rw [List.append_assoc, List.append_assoc]
          exact List.Perm.append_left _ List.perm_append_comm
        · have A3 := At.store i (A2.perm (τ' := (τ ++ u) ++ [(some v, .sh d)]) (by
            rw [List.append_assoc, List.append_assoc]
            exact List.Perm.append_left _ List.perm_append_comm))
          rw [set2, seti _ e1] at A3
          exact A3
  obtain ⟨lw, B0, r0⟩ := hxr
  have A0 := (At.addOw lw r0 hD .nil).perm (τ' := τ ++ xr ++ [(some (.ref D), .ow D [])] ++ t) (by
    rw [List.append_assoc, List.append_assoc (τ ++ xr)]
    exact List.Perm.append_left _ List.perm_append_comm)
  refine ⟨fun n m Hn => m = items.length - n ∧ n ≤ items.length ∧ ∃ ρn acc, ρn.length = ρ1.length ∧ At G (σ.set i none) ρn (τ ++ xr ++ [(some (.ref D), .ow D acc)] ++ t) Hn ∧
    lcD i wt we (fun acc ρ2 => ∀ p, (fun x ρ' => x ≠ Sl.un → ρ'.length = ρ.length → ∀ v H', At G σ ρ' (τ ++ [(some v, x)]) H' → Q v H') (.ow p acc) (ρ2.set i y)) (items.drop n) acc ρn, ⟨items.length, rfl, Nat.zero_le _, _, [], by rw [List.length_set], A0, k⟩, ?_⟩
  rintro n m Hn ⟨rfl, hn, ρn, acc, ln, An, kn⟩
  obtain ⟨Bn, rn⟩ := An.rel
  have rn2 := rn
  rw [← List.append_assoc] at rn2
  obtain ⟨go, stop⟩ := hJ n _ Hn Bn rn2
  by_cases hlt : n < items.length
  · right
    obtain ⟨g1, g2⟩ := go items[n] (List.getElem?_eq_getElem hlt)
    refine ⟨g1, fun H' => ∃ ρn acc, ρn.length = ρ1.length ∧ At G (σ.set i none) ρn (τ ++ xr ++ [(some (.ref D), .ow D acc)] ++ t) H' ∧
      lcD i wt we (fun acc ρ2 => ∀ p, (fun x ρ' => x ≠ Sl.un → ρ'.length = ρ.length → ∀ v H', At G σ ρ' (τ ++ [(some v, x)]) H' → Q v H') (.ow p acc) (ρ2.set i y)) (items.drop (n + 1)) acc ρn,
      fun H' ⟨ρ', acc', l', A', k'⟩ => ⟨items.length - (n + 1), by omega, rfl, hlt, ρ', acc', l', A', k'⟩, fun v H' hyl => ?_⟩
    obtain ⟨B2, r2, hx⟩ := g2 v H' hyl
    rw [List.drop_eq_getElem_cons hlt] at kn
    rw [hw0]
    show wipe ((σ.set i none).set i (some v)) _ = _ ∧ _
    refine ⟨by show ((σ.set i none).set i (some v)).set i none = σ.set i none; rw [List.set_set, List.set_set], ?_⟩
    have A2 := At.store i (At.addSh (τ := τ ++ xr ++ [(some (.ref D), .ow D acc)] ++ t) An.len (by rw [← List.append_assoc]; exact r2) hx)
    refine ⟨ρn.set i (.sh items[n]), _, A2.wish, mt (fun b ρ2 k2 l2 H2 A3 => ?_) (fun _ _ z => z.elim) kn⟩
    have A3 := A3.unwish
    show if b = true then _ else _
    by_cases hb : b = true
    · rw [if_pos hb] at k2 ⊢
      refine ⟨ρ2, _, A3.wish, me (fun z ρ3 k3 nz l3 u H3 A4 => ?_) (fun _ _ z => z.elim) k2⟩
      have A4 := A4.unwish
      obtain ⟨ks, k3⟩ := k3
      obtain ⟨B4, r4⟩ := A4.freezeLast nz
      have l4 := A4.len
      have e4 : ((σ.set i none).set i (some v)).zip ρ3 ++ (τ ++ xr ++ [(some (V.ref D), Sl.ow D acc)] ++ t ++ [(some u, Sl.sh z.dat)]) = (((σ.set i none).set i (some v)).zip ρ3 ++ (τ ++ xr)) ++ (some (V.ref D), Sl.ow D acc) :: (t ++ [(some u, Sl.sh z.dat)]) := by simp
      rw [e4] at r4
      have zD := r4.rep (some (V.ref D), Sl.ow D acc) (by simp)
      obtain ⟨_, ws, w1, w2⟩ : V.ref D = .ref D ∧ ∃ vs, H3 D = some (.lst vs) ∧ Rps G.K G.so B4 vs acc := zD
      have zu : Rp G.K G.so B4 u z.dat := r4.rep (some u, .sh z.dat) (by simp)
      have r5 := r4.change (es := acc ++ [z.dat]) (w2.append (.cons zu .nil))
      refine ⟨ws, w1, by rw [w2.len]; exact ks, ρ3.set i .un, acc ++ [z.dat], ?_, ?_, k3⟩
      · rw [List.length_set]
        have := l3.trans l2
        rw [List.length_set] at this
        omega
      · have A5 : At G ((σ.set i none).set i (some v)) ρ3 (τ ++ xr ++ [(some (V.ref D), Sl.ow D (acc ++ [z.dat]))] ++ t) (upd H3 D (.lst (ws ++ [u]))) := ⟨l4, B4, r5.sublist (by
          rw [List.append_assoc, List.append_assoc, List.append_assoc]
          refine List.Sublist.append (List.Sublist.refl _) ?_
          rw [List.append_assoc]
          refine List.Sublist.append (List.Sublist.refl _) (List.Sublist.append (List.Sublist.refl _) (List.Sublist.cons_cons _ (List.sublist_append_left _ _))))⟩
        have A6 := A5.wipe i none
        rw [List.set_set, List.set_set] at A6
        exact A6
    · rw [if_neg hb] at k2 ⊢
      refine ⟨ρ2.set i .un, acc, ?_, ?_, k2⟩
      · rw [List.length_set]
        rw [List.length_set] at l2
        omega
      · have A6 := A3.wipe i none
        rw [List.set_set, List.set_set] at A6
        exact A6
  · left
    have e : n = items.length := by omega
    subst e
    rw [List.drop_length] at kn
    refine ⟨stop (Nat.le_refl _), kn D (fun z => by cases z) ?_ (.ref D) Hn (hback ρn _ Hn An.drop)⟩
    rw [List.length_set]
    omega
theorem de_lc {elt iter : Expr} {ifs : List Expr} {scope : Scope} {pos px : Pos} {x : Str} {wi : DT (List D)} {wt : DT Bool} {we : DT Sl} (i : Nat) (hc : X.calm = true) (hN : X.N.Nodup) (hi : DI G X (.Name x px) iter wi) (mt : Mono wt) (me : Mono we)
    (ok : BlkOk X.N X.env.scope scope [(x, i)])
    (hg : ∀ (s : Shared) (H : Hp) (C : Addr) (cl : List (Str × Addr)) (fp : List Addr), PG (X.blk s H scope (compEnvC scope cl C X.env) fp) (.Name x px) (gName i))
    (ht : ∀ (s : Shared) (H : Hp) (C : Addr) (cl : List (Str × Addr)) (fp : List Addr), PTs (X.blk s H scope (compEnvC scope cl C X.env) fp) ifs (tDB (G.wish fun _ _ _ _ => False) wt))
    (he : ∀ (s : Shared) (H : Hp) (C : Addr) (cl : List (Str × Addr)) (fp : List Addr), PE (X.blk s H scope (compEnvC scope cl C X.env) fp) elt (tD (G.wish fun _ _ _ _ => False) we))
    (hs : ∀ x, foldedSetIterable iter X.env x = pure x := by intro _; rfl) :
    DE G X (.ListComp elt [⟨.Name x px, iter, ifs, 0⟩] scope pos) (wLc i wi wt we) := by
  obtain ⟨ti, hti, qi⟩ := hi.pi
  refine ⟨fun ρ Q Q' E E' hq he2 h => hi.mono (fun items ρ1 ⟨x, k1, k2, k3⟩ => ⟨x, k1, k2, lcD_mono mt me (fun acc ρ2 k p => hq _ _ (k p)) _ _ _ k3⟩) he2 h, pe_weak (pe_lc hc hN hti ok hg ht he hs) fun σ H Q h => lc_data i hi.mono qi mt me h⟩
end
end DL
set_option Elab.async false
set_option maxRecDepth 100000
set_option maxHeartbeats 4000000
set_option linter.unusedVariables false
/-! data-level layer, part m: own classes' still instances: attributes, properties, methods -/
namespace DL
open PySem PySem.Spec PyProof.Rows L2 NdefX
section
variable {K : PySem.W.Frag} {so : Option Addr} {B : Hp}
theorem Rps.look {f : Str} {d : D} : ∀ {fs : List Str} {vs : List V} {ds : List D}, Rps K so B vs ds → (fs.zip ds).lookup f = some d → ∃ v, (fs.zip vs).lookup f = some v ∧ Rp K so B v d
  | [], _, _, _, h => by cases h
  | _ :: _, _, _, .nil, h => by cases h
  | g :: fs, _, _, .cons (v := v) (d := d0) h r, e => by
    rw [List.zip_cons_cons, List.lookup_cons] at e
    rw [List.zip_cons_cons, List.lookup_cons]
    cases q : f == g with
    | true => rw [q] at e; cases e; exact ⟨v, rfl, h⟩
    | false => rw [q] at e; exact Rps.look r e
theorem Rps.look_none {f : Str} : ∀ {fs : List Str} {vs : List V}, f ∉ fs → (fs.zip vs).lookup f = none
  | [], _, _ => rfl
  | _ :: _, [], _ => rfl
  | g :: fs, v :: vs, h => by
    rw [List.zip_cons_cons, List.lookup_cons]
    have : (f == g) = false := by
      rw [beq_eq_false_iff_ne]; exact fun e => h (e ▸ List.mem_cons_self)
    rw [this]
    exact Rps.look_none fun z => h (List.mem_cons_of_mem _ z)
end
/-- e.f, an attribute of an instance of a class that ok tells -/
def wFld (ok : Str → Bool) (f : Str) (we : DT Sl) : DT Sl := fun ρ Q E => we ρ (fun x ρ1 => match x.dat with
  | .ins c fs ds => ok c = true ∧ ∃ d, (fs.zip ds).lookup f = some d ∧ Q (.sh d) ρ1
  | _ => False) E
theorem wFld_mono {ok : Str → Bool} {f : Str} {we : DT Sl} (h : Mono we) : Mono (wFld ok f we) := fun _ _ _ _ _ hq he q => h (fun x ρ1 k => by
  split at k
  · obtain ⟨k1, d, k2, k3⟩ := k; exact ⟨k1, d, k2, hq _ _ k3⟩
  · exact k.elim) he q
/-- what the written part says of a class's attribute -/
def FldK (K : PySem.W.Frag) (c f : Str) : Prop := Cls K (He.ga K c) ∧ NoAttr K (He.ga K c) f
/-- a property of the class c: its getter's promise (no error) -/
structure FDg (P : Program) (w : World) (K : PySem.W.Frag) (mg : Str → Option Value) (base : Heap) (k : Nat) (c f : Str) (W : DW1) : Prop where
  mono : MonoW W
  ex : ∃ (p g : Addr) (fd : FuncData) (ps : List Str), Cls K (He.ga K c) ∧ PropOf K (He.ga K c) f p g ∧ FnOk P w K mg base (L2N.CX P w) k g fd ps (spD K 1 W) ∧ Binds K fd ps []
/-- a method of the class c; n counts self -/
structure FDm (P : Program) (w : World) (K : PySem.W.Frag) (mg : Str → Option Value) (base : Heap) (k : Nat) (c m : Str) (n : Nat) (W : DW1) : Prop where
  mono : MonoW W
  ex : ∃ (f : Addr) (fd : FuncData) (ps : List Str), Cls K (He.ga K c) ∧ Meth K (He.ga K c) m f ∧ FnOk P w K mg base (L2N.CX P w) k f fd ps (spD K n W) ∧ Binds K fd ps []
/-- e.f, a property of the class c -/
def wGet (c : Str) (W : DW1) (we : DT Sl) : DT Sl := fun ρ Q E => we ρ (fun x ρ1 => match x.dat with
  | .ins c' fs ds => c' = c ∧ W [.ins c' fs ds] (fun z => Q z ρ1) (fun _ => False)
  | _ => False) E
theorem wGet_mono {c : Str} {W : DW1} {we : DT Sl} (hW : MonoW W) (h : Mono we) : Mono (wGet c W we) := fun _ _ _ _ _ hq he q => h (fun x ρ1 k => by
  split at k
  · exact ⟨k.1, hW (fun z q => hq _ _ q) (fun _ z => z) k.2⟩
  · exact k.elim) he q
/-- e.m(..), a method of the class c -/
def wMeth (c m : Str) (W : DW1) (we : DT Sl) (wa : DT (List Sl)) : DT Sl := fun ρ Q E => we ρ (fun x ρ1 => match x.dat with
  | .ins c' fs ds => c' = c ∧ m ∉ fs ∧ wa ρ1 (fun xs ρ2 => W (.ins c' fs ds :: datas xs) (fun z => Q z ρ2) (fun e => E e ρ2)) E
  | _ => False) E
theorem wMeth_mono {c m : Str} {W : DW1} {we : DT Sl} {wa : DT (List Sl)} (hW : MonoW W) (h : Mono we) (ha : Mono wa) : Mono (wMeth c m W we wa) := fun _ _ _ _ _ hq he q => h (fun x ρ1 k => by
  split at k
  · exact ⟨k.1, k.2.1, ha (fun xs ρ2 k => hW (fun z => hq _ _) (fun e => he _ _) k) he k.2.2⟩
  · exact k.elim) he q
section
variable {G : Gx} {X : Cx} {e o : Expr} {we wo : DT Sl} {f m c : Str} {pos apos : Pos} {k n : Nat} {W : DW1}
theorem de_fld (ok : Str → Bool) (hok : ∀ c, ok c = true → FldK X.K c f) (hK : G.K = X.K) (he : DE G X e we) (hb : attributeBase e f X.env (eval e X.env) = eval e X.env := by rfl) : DE G X (.Attribute e f pos) (wFld ok f we) := by
  refine ⟨wFld_mono he.mono, pe_weak (pe_fld he.pe hb) fun σ H Q h => ?_⟩
  obtain ⟨ρ, τ, hA, hw⟩ := h
  refine ⟨ρ, τ, hA, he.mono (fun x ρ1 k nx l v H1 A1 => ?_) (fun _ _ e => e) hw⟩
  obtain ⟨B, h1, h2⟩ := A1.still nx
  split at k
  · rename_i c fs ds ex
    obtain ⟨k1, d, k2, k3⟩ := k
    rw [ex] at h1
    cases h1 with
    | ins hp hl hr =>
      obtain ⟨u, q1, q2⟩ := hr.look k2
      obtain ⟨t1, t2⟩ := hok _ k1
      refine ⟨_, _, _, _, u, rfl, h2.hi _ _ hp, ?_, ?_, q1, k3 (fun z => by cases z) l u H1 (At.addSh A1.len h2 q2)⟩
      · rw [hK]; exact t1
      · rw [hK]; exact t2
  · exact k.elim
theorem de_prop (F : FDg X.prog X.w X.K X.mg X.base k c f W) (hr : Room (k + 1) X.A) (hK : G.K = X.K) (he : DE G X e we) (hb : attributeBase e f X.env (eval e X.env) = eval e X.env := by rfl) : DE G X (.Attribute e f pos) (wGet c W we) := by
  obtain ⟨hW, p, g, fd, ps, hC, hP, hF, hB⟩ := F
  refine ⟨wGet_mono hW he.mono, pe_weak (pe_prop (CX := L2N.CX X.prog X.w) (dvs := []) (E := fun _ _ _ => False) he.pe hC hP hF hr hB .nil (fun pins σ H s e s' I c => by
    obtain ⟨_, _, _, _, _, _, _, _, _, _, _, _, z⟩ := c
    exact z.elim) hb) fun σ H Q h => ?_⟩
  obtain ⟨ρ, τ, hA, hw⟩ := h
  refine ⟨ρ, τ, hA, he.mono (fun x ρ1 k nx l v H1 A1 => ?_) (fun _ _ e => e) hw⟩
  obtain ⟨B, h1, h2⟩ := A1.still nx
  split at k
  · rename_i c' fs ds ex
    obtain ⟨rfl, k2⟩ := k
    rw [ex] at h1
    have h0 := h1
    cases h1 with
    | ins hp hl hv =>
      refine ⟨_, _, _, rfl, by rw [← hK]; exact h2.hi _ _ hp, ?_⟩
      rw [← hK]
      refine ⟨G.so, B, [.ins c' fs ds], rfl, h2.hi, h2.st, .cons h0 .nil, hW (fun z k nz v H' q => ?_) (fun _ z => z.elim) k2⟩
      obtain ⟨B', q⟩ := q
      exact k nz l v H' ⟨A1.len, B', by rw [← List.append_assoc]; exact h2.after q⟩
  · exact k.elim
theorem de_meth {a : Expr} {es : List Expr} {wr : DT (List Sl)} {pl : Sem Bool} (F : FDm X.prog X.w X.K X.mg X.base k c m n W) (hr : Room k X.A) (hK : G.K = X.K) (tk : L2N.Takes X fun cls d σ H => G.EX σ cls d H) (hE : ∀ σ σ' : St, G.EX σ = G.EX σ') (ho : DE G X o wo) (ha : DA G X (a :: es) wr) (hn : es.length + 2 = n := by rfl)
    (hst : starEach (a :: es) X.env = (false, eval a X.env) :: starEach es X.env := by rfl) (hpl : (backTo pos (starEach es X.env)).any (·.1) = false := by rfl)
    (ht : eval (.Call (.Attribute o m apos) (a :: es) [] pos) X.env = (do
      let ov ← eval o X.env
      standAt apos.atName
      let (f, first) ← holding [ov] (getMethod ov m pl)
      callWith pos f first (backTo pos (starEach (a :: es) X.env)) (backToKw pos (keywordEach [] X.env))) := by rfl) :
    DE G X (.Call (.Attribute o m apos) (a :: es) [] pos) (wMeth c m W wo wr) := by
  obtain ⟨hW, f, fd, ps, hC, hM, hF, hB⟩ := F
  have tk' : L2N.Takes X fun cls d _ H => G.EX [] cls d H := tk.imp fun c d σ H h => by rw [hE σ []]; exact h
  refine ⟨wMeth_mono hW ho.mono ha.mono, pe_weak (pe_meth (E := G.EX []) (dvs := []) ho.pe hC hM hF hr hB .nil (L2N.passes_call tk' fun _ _ _ _ h => h) ha.pa hst hpl ht) fun σ H Q h => ?_⟩
  obtain ⟨ρ, τ, hA, hw⟩ := h
  refine ⟨ρ, τ, hA, ho.mono (fun x ρ1 k nx l v H1 A1 => ?_) (fun _ _ e => e) hw⟩
  obtain ⟨B, h1, h2⟩ := A1.still nx
  split at k
  · rename_i c' fs ds ex
    obtain ⟨rfl, k1, k2⟩ := k
    rw [ex] at h1
    have h0 := h1
    cases h1 with
    | ins hp hl hv =>
      refine ⟨_, _, _, rfl, by rw [← hK]; exact h2.hi _ _ hp, Rps.look_none k1, ?_⟩
      refine ⟨ρ1, _, ⟨A1.len, B, by rw [← List.append_assoc]; exact h2.addSh h0⟩, ha.mono (fun xs ρ2 k nxs ln l2 vs H2 lv A2 => ?_) xw_app k2⟩
      obtain ⟨B2, g1, g2⟩ := A2.stills lv nxs
      have z := g2.rep _ (List.mem_append_right _ (List.mem_append_right _ List.mem_cons_self))
      rw [← hK, List.append_nil]
      have key := call_ends (Q := Q) (n := n) hW A2.len (show (D.ins c' fs ds :: datas xs).length = n by rw [List.length_cons]; unfold datas; rw [List.length_map, ln]; exact hn) g2 (Rps.cons z g1) (hW (fun zz q nz v H' A' => q nz (l2.trans l) v H' (by
        obtain ⟨B3, r3⟩ := A'.rel
        exact ⟨A'.len, B3, r3.sublist (by
          refine List.Sublist.append (List.Sublist.refl _) ?_
          rw [List.append_assoc]
          exact List.Sublist.append (List.Sublist.refl _) (List.sublist_append_right _ _))⟩)) (fun e q => xw_app e ρ2 q) k)
      rw [hE [] σ]
      exact key
  · exact k.elim
end
end DL
set_option Elab.async false
set_option maxRecDepth 100000
set_option maxHeartbeats 4000000
set_option linter.unusedVariables false
/-! data-level layer, part n: an own class's instance made -/
namespace DL
open PySem PySem.Spec PyProof.Rows L2 NdefX
/-- a heap without one object -/
def cut (H : Hp) (a : Addr) : Hp := fun b => if b = a then none else H b
theorem cut_ne {H : Hp} {a b : Addr} (h : b ≠ a) : cut H a b = H b := if_neg h
theorem cut_eq {H : Hp} {a : Addr} : cut H a a = none := if_pos rfl
/-- less is told of the entry -/
theorem Rel.less {K : PySem.W.Frag} {so : Option Addr} {B0 H0 H0' : Hp} {E : L2.St → XK} {R : Roots} {H B : Hp} (h : Rel ⟨K, so, B0, H0', E⟩ R H B) (k : ∀ b o, H0 b = some o → H0' b = some o) : Rel ⟨K, so, B0, H0, E⟩ R H B :=
  ⟨h.lo, h.hi, fun a o e n => h.fr a o (k a o e) n, fun a xs e n => h.nw a xs e (by
    cases q : H0 a with
    | none => exact absurd q n
    | some o => show H0' a ≠ none; rw [k a o q]; exact Option.some_ne_none _), h.rep, h.nd, (fun p hp => by
    obtain ⟨a1, a2, a3⟩ := h.ap p hp
    refine ⟨a1, ?_, a3⟩
    cases q : H0 p with
    | none => exact q
    | some o =>
      have a2' : H0' p = none := a2
      rw [k p o q] at a2'
      cases a2'), h.st⟩
/-- what an __init__ is handed, and what it leaves: the instance at a -/
def spI (K : PySem.W.Frag) (C : Addr) (n : Nat) (W : DW1) : Sp := fun vs H Q E => ∃ (a dx : Addr) (us : List V) (so : Option Addr) (B : Hp) (ds : List D), vs = .ref a :: us ∧ H a = some (.ins C dx []) ∧ B a = none ∧ so ≠ some a ∧ ds.length = n ∧ Same B H ∧
  (∀ s, so = some s → B s = none ∧ StoreAt K B H s) ∧ Rps K so B us ds ∧
  W ds (fun z => z ≠ .un → ∀ H', RelE ⟨K, so, B, cut H a, fun _ => E⟩ [(some (.ref a), z)] H' → Q .non H') (fun e => ∀ B' cls d H', Rel ⟨K, so, B, cut H a, fun _ => E⟩ [] H' B' → RepX K so B' cls d e → E cls d H')
/-- a class that is called by its name -/
structure FDi (P : Program) (w : World) (K : PySem.W.Frag) (mg : Str → Option Value) (base : Heap) (k : Nat) (c : Str) (n : Nat) (W : DW1) : Prop where
  mono : MonoW W
  ex : ∃ (f : Addr) (fd : FuncData) (ps : List Str), mg c = some (.ref (He.ga K c)) ∧ Mk K (He.ga K c) f ∧ FnOk P w K mg base (L2N.CX P w) k f fd ps (spI K (He.ga K c) n W) ∧ Binds K fd ps []
section
variable {G : Gx} {X : Cx} {e : Expr} {es : List Expr} {wr : DT (List Sl)} {p pos : Pos} {c : Str} {k n : Nat} {W : DW1}
theorem de_make (F : FDi X.prog X.w X.K X.mg X.base k c n W) (hr : Room (k + 1) X.A) (hK : G.K = X.K) (tk : L2N.Takes X fun cls d σ H => G.EX σ cls d H) (hE : ∀ σ σ' : St, G.EX σ = G.EX σ') (ha : DA G X (e :: es) wr) (hn : es.length + 1 = n := by rfl) (hg : Gl X c := by rfl)
    (hdb : (c == ("__debug__" : Str)) = false := by decide) (he : starEach (e :: es) X.env = (false, eval e X.env) :: starEach es X.env := by rfl) (hpl : (backTo pos (starEach es X.env)).any (·.1) = false := by rfl) : DE G X (.Call (.Name c p) (e :: es) [] pos) (wCall W wr) := by
  obtain ⟨hW, f, fd, ps, hm, hM, hF, hB⟩ := F
  have tk' : L2N.Takes X fun cls d _ H => G.EX [] cls d H := tk.imp fun c d σ H h => by rw [hE σ []]; exact h
  refine ⟨wCall_mono hW ha.mono, pe_weak (pe_make (E := G.EX []) (dvs := []) hM hF hr hg hm hB .nil (L2N.passes_call tk' fun _ _ _ _ h => h) ha.pa hdb he hpl) fun σ H Q h => ?_⟩
  obtain ⟨ρ, τ, hA, hw⟩ := h
  refine ⟨ρ, τ, hA, ha.mono (fun xs ρ1 k nxs ln l vs H1 lv A1 => ?_) (fun _ _ e => e) hw⟩
  obtain ⟨B, h1, h2⟩ := A1.stills lv nxs
  intro x dx hx hdx hne
  rw [List.append_nil]
  have s1 : Same H1 (upd (upd H1 dx (.own x)) x (.ins (He.ga X.K c) dx [])) := by
    refine (same_upd hdx).trans (same_upd ?_)
    rw [upd_ne (Ne.symm hne)]; exact hx
  have cutS : ∀ b o, H1 b = some o → cut (upd (upd H1 dx (.own x)) x (.ins (He.ga X.K c) dx [])) x b = some o := fun b o e => by
    have : b ≠ x := fun z => by rw [z, hx] at e; cases e
    rw [cut_ne this]; exact s1 b o e
  rw [← hK]
  refine ⟨x, dx, vs, G.so, B, datas xs, rfl, by rw [hK]; exact upd_same .., h2.free hx, fun z => ?_, by unfold datas; rw [List.length_map, ln]; exact hn, h2.hi.trans (by rw [hK]; exact s1), fun s es => ?_, h1, ?_⟩
  · obtain ⟨ys, hy⟩ := h2.store_some z
    rw [hx] at hy; cases hy
  · obtain ⟨t1, t2⟩ := h2.st s es
    refine ⟨t1, t2.mono (Same.refl _) ?_⟩
    obtain ⟨ys, hy⟩ := h2.store_some es
    rw [hy, hK]
    exact s1 _ _ hy
  · refine hW (fun z q nz H' r => ⟨rfl, ?_⟩) (fun e q B' cls d H' r hx2 => ?_) k
    · obtain ⟨B', r⟩ := r
      refine q nz l _ H' ⟨A1.len, B', ?_⟩
      rw [← List.append_assoc]
      exact h2.after (r.less (by rw [hK]; exact cutS))
    · have r2 := h2.after0 (r.less (by rw [hK]; exact cutS))
      have := q σ cls d H' B' A1.len r2 hx2
      rw [hE [] σ]; exact this
end

/-! ### a class's __init__ -/
/-- a word for the object that is being made -/
def oe0 (K : PySem.W.Frag) (c : Str) : Obj := ⟨.ref (He.ga K c), none, .fields #[.none, .none, .none], #[]⟩
def selfD (K : PySem.W.Frag) (c : Str) (a : Addr) : D := .exc c none a (oe0 K c)
theorem self_rp {K : PySem.W.Frag} {so : Option Addr} {B : Hp} {c : Str} {a : Addr} : Rp K so B (.ref a) (selfD K c a) :=
  .exn ⟨rfl, rfl, fun vs e => by cases e; rfl⟩ ⟨_, rfl⟩
theorem self_of {K : PySem.W.Frag} {so : Option Addr} {B : Hp} {c : Str} {a : Addr} {v : V} (h : Rp K so B v (selfD K c a)) : v = .ref a := by
  unfold selfD at h
  cases h; rfl
theorem Rel.step {G : Gx} {E : L2.St → XK} {R R' : Roots} {H B H' B' : Hp} (h : Rel G R H B) (k : Rel ⟨G.K, G.so, B, H, E⟩ R' H' B') : Rel G R' H' B' :=
  ⟨h.lo.trans k.lo, k.hi, fun a o e n => k.fr a o (h.fr a o e n) n, fun a xs e n => by
    by_cases hs : G.so = some a
    · have := (k.st a hs).1
      rw [e] at this; cases this
    · cases z : G.H0 a with
      | none => exact absurd z n
      | some o =>
        have e1 := h.fr a o z hs
        have e2 : B a ≠ none := k.nw a xs e (by show H a ≠ none; rw [e1]; exact Option.some_ne_none _)
        cases q : B a with
        | none => exact absurd q e2
        | some u => exact h.nw a u q n, k.rep, k.nd, (fun p hp => by
    obtain ⟨a1, a2, a3⟩ := k.ap p hp
    refine ⟨a1, ?_, a3⟩
    cases q : G.H0 p with
    | none => rfl
    | some o =>
      have := h.fr p o q a3
      have a2' : H p = none := a2
      rw [a2'] at this; cases this), k.st⟩
theorem feet_still {σ : St} {ρ : DEnv} (h : ∀ x ∈ ρ, StillS x) : feet (σ.zip ρ) = [] := feet_none fun r hr => by
  obtain ⟨r1, r2⟩ := r
  show r2.foot = []
  rcases h r2 (List.of_mem_zip hr).2 with e | ⟨d, e⟩ <;> (rw [e]; rfl)
/-- the object at a as far as it is made -/
structure InI (G : Gx) (a dx C : Addr) (fs : List Str) (ds : List D) (σ : St) (ρ : DEnv) (H : Hp) : Prop where
  len : ρ.length = σ.length
  still : ∀ x ∈ ρ, StillS x
  ex : ∃ B vs, Rel G (σ.zip ρ) H B ∧ B a = none ∧ H a = some (.ins C dx (fs.zip vs)) ∧ fs.length = vs.length ∧ Rps G.K G.so B vs ds
abbrev DIb := Addr → List Str → List D → DEnv → (List Str → List D → Prop) → (Er → Prop) → Prop
def xI (G : Gx) : Er → Prop := fun e => ∀ B' cls d H', Rel G [] H' B' → RepX G.K G.so B' cls d e → ∀ σ, G.EX σ cls d H'
def tI (G : Gx) (a dx C : Addr) (w : DIb) : TS := fun D σ H => ∃ ρ fs ds, InI G a dx C fs ds σ ρ H ∧ w a fs ds ρ (fun fs ds => ∀ σ' H' ρ', InI G a dx C fs ds σ' ρ' H' → D.nx σ' H') (xI G)
def iEnd : DIb := fun _ fs ds _ Q _ => Q fs ds
def iStm (w : DS) (r : DIb) : DIb := fun a fs ds ρ Q E => w ⟨fun ρ' => (∀ x ∈ ρ', StillS x) ∧ r a fs ds ρ' Q E, fun _ _ => False, fun _ => False, fun _ => False⟩ ρ (fun e _ => E e)
def iFld (K : PySem.W.Frag) (c f : Str) (we : DT Sl) (r : DIb) : DIb := fun a fs ds ρ Q E => we ρ (fun x ρ' => (∀ x ∈ ρ', StillS x) ∧ ρ'[0]? = some (.sh (selfD K c a)) ∧ f ∉ fs ∧ fs.length < 1000 ∧ r a (fs ++ [f]) (ds ++ [x.dat]) ρ' Q E) (fun e _ => E e)
theorem putF_new {f : Str} {v : V} : ∀ {fs : List Str} {vs : List V}, fs.length = vs.length → f ∉ fs → putF f v (fs.zip vs) = (fs ++ [f]).zip (vs ++ [v])
  | [], [], _, _ => rfl
  | g :: fs, u :: vs, l, h => by
    have : ¬ g = f := fun e => h (e ▸ List.mem_cons_self)
    show (if g = f then _ else _) = _
    rw [if_neg this]
    show (g, u) :: putF f v (fs.zip vs) = _
    rw [putF_new (by simpa using l) fun z => h (List.mem_cons_of_mem _ z)]
    rfl
  | [], _ :: _, l, _ => by cases l
  | _ :: _, [], l, _ => by cases l
section
variable {G : Gx} {X : Cx} {a dx C : Addr} {st : Stmt} {rest : List Stmt} {w : DS} {r : DIb}
theorem in_end : PSs X [] (tI G a dx C iEnd) := pss_weak pss_nil fun D σ H h => by
  obtain ⟨ρ, fs, ds, hI, hw⟩ := h
  exact hw σ H ρ hI
theorem in_stm (hs : ∀ B H, DSt ⟨G.K, G.so, B, H, G.EX⟩ X st w) (hso : G.so ≠ some a) (hr : PSs X rest (tI G a dx C r)) : PSs X (st :: rest) (tI G a dx C (iStm w r)) := by
  refine ⟨fun pins s σ H D I h => ?_⟩
  obtain ⟨ρ, fs, ds, ⟨l, still, B, vs, r0, b0, h0, lf, hv⟩, hw⟩ := h
  have d := hs B H
  refine (pss_cons d.ps hr).run pins s σ H D I ?_
  have re : Rel ⟨G.K, G.so, B, H, G.EX⟩ (σ.zip ρ) H B := Rel.entry r0.hi r0.rep (feet_still still) r0.st
  refine ⟨ρ, [], ⟨l, B, by rw [List.append_nil]; exact re⟩, d.mono hw ⟨fun ρ' ⟨k1, k2⟩ _ σ' H' A' => ?_, fun _ _ z => z.elim, fun _ z => z.elim, fun _ z => z.elim⟩ fun e ρ' k σ1 cls d1 H1 B1 _ r1 hx => ?_⟩
  · obtain ⟨B', r'⟩ := A'.rel
    rw [List.append_nil] at r'
    have hfa : H' a = some (.ins C dx (fs.zip vs)) := r'.fr a _ h0 hso
    refine ⟨ρ', fs, ds, ⟨A'.len, k1, B', vs, r0.step r', ?_, hfa, lf, hv.mono r'.lo⟩, k2⟩
    cases q : B' a with
    | none => rfl
    | some o => exact absurd b0 (r'.nw a o q (by show H a ≠ none; rw [h0]; exact Option.some_ne_none _))
  · rw [List.append_nil] at r1
    have r2 := r0.step r1
    exact k B1 cls d1 H1 (r2.sub (fun _ z => by cases z) (by rw [feet_nil]; exact List.nodup_nil)) hx σ1
theorem in_fld {c f self : Str} {e : Expr} {we : DT Sl} {p p1 p2 : Pos} (hC : Cls X.K C) (hf : NoAttr X.K C f) (he : ∀ B H, DE ⟨G.K, G.so, B, H, G.EX⟩ X e we) (hso : G.so ≠ some a) (hcut : G.H0 a = none) (hN : X.N[0]? = some self) (hv : Vis X.env.scope self)
    (hs : swapsWith e (some (.Attribute (.Name self p) f p1)) p2.line X.env = pure false) (hr : PSs X rest (tI G a dx C r)) (hd : (self == ("__debug__" : Str)) = false := by decide) (hcd : (self == ("__classdict__" : Str)) = false := by decide) :
    PSs X (.Assign [.Attribute (.Name self p) f p1] e p2 :: rest) (tI G a dx C (iFld G.K c f we r)) := by
  refine ⟨fun pins s σ H D I h => ?_⟩
  obtain ⟨ρ, fs, ds, ⟨l, still, B, vs, r0, b0, h0, lf, hv0⟩, hw⟩ := h
  have d := he B H
  refine (pss_cons (ps_fld (pe_var (i := 0) hN hv hd hcd) d.pe hs) hr).run pins s σ H D I ?_
  have re : Rel ⟨G.K, G.so, B, H, G.EX⟩ (σ.zip ρ) H B := Rel.entry r0.hi r0.rep (feet_still still) r0.st
  refine ⟨ρ, [], ⟨l, B, by rw [List.append_nil]; exact re⟩, d.mono (fun x ρ1 k nx l1 v H1 A1 => ?_) (fun e ρ' k σ1 cls d1 H1 B1 _ r1 hx => ?_) hw⟩
  · obtain ⟨k1, k2, k3, k4, k5⟩ := k
    obtain ⟨B1, h1, h2⟩ := A1.still nx
    rw [List.append_nil] at h2
    have r1 := r0.step h2
    have hfa : H1 a = some (.ins C dx (fs.zip vs)) := h2.fr a _ h0 hso
    have b1 : B1 a = none := by
      cases q : B1 a with
      | none => rfl
      | some o => exact absurd b0 (h2.nw a o q (by show H a ≠ none; rw [h0]; exact Option.some_ne_none _))
    obtain ⟨L, R, u, e1, e2, _⟩ := zip_split A1.len k2
    have z := h2.rep (u, .sh (selfD G.K c a)) (by rw [e2]; simp)
    cases u with
    | none => exact z.elim
    | some u =>
      obtain rfl := self_of (show Rp G.K G.so B1 u (selfD G.K c a) from z)
      refine ⟨.ref a, e1, a, C, dx, _, rfl, hfa, hC, hf, ?_, ?_⟩
      · rw [List.length_zip]; omega
      · rw [putF_new lf k3]
        refine ⟨ρ1, fs ++ [f], ds ++ [x.dat], ⟨A1.len, k1, B1, vs ++ [v], ?_, b1, upd_same .., by simp [lf], (hv0.mono h2.lo).append (.cons h1 .nil)⟩, k5⟩
        have ft := feet_still (σ := σ) k1
        refine ⟨r1.lo, fun b o q => ?_, fun b o q n => ?_, r1.nw, fun q hq => ?_, r1.nd, r1.ap, fun s es => ?_⟩
        · have : b ≠ a := fun z => by rw [z, b1] at q; cases q
          rw [upd_ne this]; exact r1.hi b o q
        · have : b ≠ a := fun z => by rw [z, hcut] at q; cases q
          rw [upd_ne this]; exact r1.fr b o q n
        · refine (r1.rep q hq).mono (Same.refl _) fun p hp => ?_
          have := mem_feet hq hp
          rw [ft] at this; cases this
        · obtain ⟨t1, t2⟩ := r1.st s es
          refine ⟨t1, t2.mono (Same.refl _) (upd_ne fun z => hso (z ▸ es))⟩
  · rw [List.append_nil] at r1
    have r2 := r0.step r1
    exact k B1 cls d1 H1 (r2.sub (fun _ z => by cases z) (by rw [feet_nil]; exact List.nodup_nil)) hx σ1
end

def MonoIb (w : DIb) : Prop := ∀ ⦃a fs ds ρ Q Q' E E'⦄, (∀ fs ds, Q fs ds → Q' fs ds) → (∀ e, E e → E' e) → w a fs ds ρ Q E → w a fs ds ρ Q' E'
theorem iEnd_mono : MonoIb iEnd := fun _ _ _ _ _ _ _ _ hq _ h => hq _ _ h
theorem iStm_mono {w : DS} {r : DIb} (hw : MonoS w) (hr : MonoIb r) : MonoIb (iStm w r) := fun _ _ _ _ _ _ _ _ hq he h => hw h ⟨fun _ k => ⟨k.1, hr hq he k.2⟩, fun _ _ z => z, fun _ z => z, fun _ z => z⟩ fun e _ k => he e k
theorem iFld_mono {K : PySem.W.Frag} {c f : Str} {we : DT Sl} {r : DIb} (hw : Mono we) (hr : MonoIb r) : MonoIb (iFld K c f we r) := fun _ _ _ _ _ _ _ _ hq he h => hw (fun x ρ k => ⟨k.1, k.2.1, k.2.2.1, k.2.2.2.1, hr hq he k.2.2.2.2⟩) (fun e _ k => he e k) h
section
variable {P : Program} {w : World} {K : PySem.W.Frag} {mg : Str → Option Value} {base : Heap} {x qual c : Str} {params : Arguments} {body : List Stmt} {scope : Scope} {f : Addr} {fd : FuncData}
theorem fdi_ok {N ps : List Str} {k n : Nat} {W : DW1} (hW : MonoW W) (hm : mg c = some (.ref (He.ga K c))) (M : Mk K (He.ga K c) f) (F : FunD K x qual params body scope [] [] f fd) (S : FnScope N ps scope) (hps : ps.length = n + 1) (hlen : ∀ ds Q E, W ds Q E → ds.length = n)
    (hbd : ∀ (kV doc pm : Value) (an : Option Addr) (cdv ct : Value) (us : List Value), us.length = ps.length → bindArgs (PySem.W.fnOf x qual params body scope .none kV doc pm an cdv ct) ⟨us, []⟩ = pure (ps.zip us))
    (hb : ∀ (cdv : Value) (A : Around) (outer : List Env) (s : Shared) (H : Hp) (E : XK), Room k (A.deeper (envOfC qual scope s.heap.objs.size f cdv)) →
      L2N.Takes (cxD P w K mg base N qual scope f cdv A outer s H E) (fun cls d _ H => E cls d H) →
      ∃ wb : DIb, MonoIb wb ∧ (∀ (so : Option Addr) (B H0 : Hp) (a dx : Addr), so ≠ some a → H0 a = none → PSs (cxD P w K mg base N qual scope f cdv A outer s H E) body (tI ⟨K, so, B, H0, fun _ => E⟩ a dx (He.ga K c) wb)) ∧
        ∀ a ds Q E', W ds Q E' → wb a [] [] (entry N.length (selfD K c a :: ds)) (fun fs ds => Q (.sh (.ins c fs ds))) E') :
    FDi P w K mg base (k + 1) c n W := by
  refine ⟨hW, f, fd, ps, hm, M, ?_, F.bindsN hbd⟩
  refine F.ok S (fun vs H Q E h => ?_) (fun cdv A outer s H vs Q E hr h => ?_)
  · obtain ⟨a, dx, us, so, B, ds, rfl, _, _, _, ln, _, _, hv, _⟩ := h
    rw [List.length_cons, hv.len, ln, hps]
  · obtain ⟨a, dx, us, so, B, ds, rfl, h0, b0, hso, ln, e, st, hv, hw⟩ := h
    obtain ⟨wb, mo, hp, hq⟩ := hb cdv A outer s H E hr (L2N.takes_of rfl rfl rfl rfl)
    refine ⟨_, hp so B (cut H a) a dx hso cut_eq, entry N.length (selfD K c a :: ds), [], [], ⟨start_entry (by rw [List.length_cons, List.length_cons, hv.len]), fun y hy => ?_, B, [], ?_, b0, h0, rfl, .nil⟩, mo (fun fs ds k σ' H' ρ' hI => ?_) (fun e k B' cls d H' r hx σ => k B' cls d H' r hx) (hq a ds _ _ hw)⟩
    · unfold entry at hy
      rcases List.mem_append.mp hy with hy | hy
      · obtain ⟨d, _, e⟩ := List.mem_map.mp hy; exact .inr ⟨d, e.symm⟩
      · exact .inl (List.mem_replicate.mp hy).2
    · have hv2 : Rps K so B (V.ref a :: us) (selfD K c a :: ds) := .cons self_rp hv
      have r0 : Rel ⟨K, so, B, H, fun _ => E⟩ ((L2.start N (V.ref a :: us)).zip (entry N.length (selfD K c a :: ds))) H B := by
        refine Rel.entry e (fun q hq => ?_) (feet_still fun y hy => ?_) st
        · obtain ⟨i, hi⟩ := List.getElem?_of_mem hq
          rw [List.getElem?_zip_eq_some] at hi
          unfold L2.start entry at hi
          obtain ⟨q1, q2⟩ := q
          simp only [] at hi
          by_cases hl : i < (selfD K c a :: ds).length
          · have lv := hv2.len
            rw [List.getElem?_append_left (by simpa using (by omega : i < (V.ref a :: us).length)), List.getElem?_append_left (by simpa using hl), List.getElem?_map, List.getElem?_map] at hi
            obtain ⟨a1, a2⟩ := hi
            rw [Option.map_eq_some_iff] at a1 a2
            obtain ⟨v, g1, rfl⟩ := a1
            obtain ⟨d, g2, rfl⟩ := a2
            obtain ⟨v', g3, g4⟩ := hv2.get g2
            rw [g1] at g3
            cases g3
            exact g4
          · have a2 := hi.2
            rw [List.getElem?_append_right (by simpa using hl)] at a2
            have := (List.mem_replicate.mp (List.mem_of_getElem? a2)).2
            rw [this]
            cases q1 <;> trivial
        · unfold entry at hy
          rcases List.mem_append.mp hy with hy | hy
          · obtain ⟨d, _, e⟩ := List.mem_map.mp hy; exact .inr ⟨d, e.symm⟩
          · exact .inl (List.mem_replicate.mp hy).2
      exact r0.less fun b o q => by
        by_cases hb : b = a
        · subst hb; rw [cut_eq] at q; cases q
        · rw [cut_ne hb] at q; exact q
    · obtain ⟨l, still, B', vs, r, b', h', lf, hv'⟩ := hI
      refine k (fun z => by cases z) H' ⟨upd B' a (.ins (He.ga K c) dx (fs.zip vs)), ?_⟩
      have sB : Same B' (upd B' a (.ins (He.ga K c) dx (fs.zip vs))) := same_upd b'
      refine ⟨r.lo.trans sB, fun b o q => ?_, r.fr, fun b o q nn => ?_, fun q hq => ?_, by rw [feet_one]; exact List.nodup_nil, (fun p hp => by rw [feet_one] at hp; cases hp), fun s es => ?_⟩
      · by_cases hb : b = a
        · subst hb; rw [upd_same] at q; cases q; exact h'
        · rw [upd_ne hb] at q; exact r.hi b o q
      · by_cases hb : b = a
        · subst hb; exact absurd cut_eq nn
        · rw [upd_ne hb] at q; exact r.nw b o q nn
      · have eq : q = (some (.ref a), .sh (.ins c fs ds)) := by simpa using hq
        subst eq
        exact .ins (upd_same ..) lf (hv'.mono sB)
      · obtain ⟨t1, t2⟩ := r.st s es
        have : s ≠ a := fun z => hso (z ▸ es)
        exact ⟨by rw [upd_ne this]; exact t1, t2.mono sB rfl⟩
end
end DL
set_option Elab.async false
set_option maxRecDepth 100000
set_option maxHeartbeats 4000000
set_option linter.unusedVariables false
/-! data-level layer, part o: isinstance with a pair of built-in types -/
namespace DL
open PySem PySem.Spec PyProof.Rows L2 NdefX
/-- no error -/
def NoExc : D → Bool
  | .exc _ _ _ _ => false
  | _ => true
section
variable {K : PySem.W.Frag} {so : Option Addr} {B H : Hp} {v : V} {d : D}
theorem isi_two {u1 u2 : Value} {b1 b2 : Bool} (e : Same B H) (h : Rp K so B v d) (n : NoExc d = true) (k1 : Isi K d u1 b1) (k2 : Isi K d u2 b2) : ∃ t, TyX K H v t ∧ PySem.W.kitOne K t u1 = some b1 ∧ PySem.W.kitOne K t u2 = some b2 := by
  cases d with
  | exc c a p oe => cases n
  | ins c fs ds =>
    obtain ⟨z, h1⟩ := k1
    obtain ⟨_, h2⟩ := k2
    cases h with
    | ins hp hl hr => exact ⟨_, .base (.ins (e _ _ hp) z.cl z.ha z.hn z.ht z.hm), h1, h2⟩
  | _ =>
    obtain ⟨t, g1, h1⟩ := k1
    obtain ⟨t', g2, h2⟩ := k2
    rw [g1] at g2
    cases g2
    exact ⟨_, tyx_of e h g1, h1, h2⟩
end
/-- either of two answers -/
def orF (f g : D → Option Bool) : D → Option Bool := fun d => if NoExc d then (match f d, g d with | some a, some b => some (a || b) | _, _ => none) else none
section
variable {G : Gx} {X : Cx} {a : Expr} {wa : DT Sl} {p q1 q2 tpos pos : Pos}
theorem de_isi2 {T1 T2 : Str} {n1 n2 : String} {f1 f2 : D → Option Bool} {x1 : Nat} (hK : G.K = X.K) (hm : X.mg "isinstance" = none) (hT1 : X.mg T1 = none) (hb1 : bootBuiltins T1 = some (.type n1)) (hT2 : X.mg T2 = none) (hb2 : bootBuiltins T2 = some (.type n2))
    (hf1 : ∀ d b, f1 d = some b → Isi G.K d (.type n1) b) (hf2 : ∀ d b, f2 d = some b → Isi G.K d (.type n2) b) (ha : DE G X a wa) (hg : Gl X "isinstance" := by rfl) (hgT1 : Gl X T1 := by rfl) (hgT2 : Gl X T2 := by rfl)
    (hn1 : T1 ≠ "__name__" := by decide) (hd1 : (T1 == ("__debug__" : Str)) = false := by decide) (hn2 : T2 ≠ "__name__" := by decide) (hd2 : (T2 == ("__debug__" : Str)) = false := by decide)
    (s1 : starEach [Expr.Name T1 q1, Expr.Name T2 q2] X.env = (false, eval (Expr.Name T1 q1) X.env) :: starEach [Expr.Name T2 q2] X.env := by rfl) (s2 : starEach [Expr.Name T2 q2] X.env = (false, eval (Expr.Name T2 q2) X.env) :: starEach [] X.env := by rfl)
    (he : starEach [a, .Tuple [.Name T1 q1, .Name T2 q2] x1 tpos] X.env = (false, eval a X.env) :: starEach [.Tuple [.Name T1 q1, .Name T2 q2] x1 tpos] X.env := by rfl)
    (he2 : starEach [.Tuple [.Name T1 q1, .Name T2 q2] x1 tpos] X.env = (false, eval (.Tuple [.Name T1 q1, .Name T2 q2] x1 tpos) X.env) :: starEach [] X.env := by rfl)
    (hpl : (backTo pos (starEach [.Tuple [.Name T1 q1, .Name T2 q2] x1 tpos] X.env)).any (·.1) = false := by rfl) :
    DE G X (.Call (.Name "isinstance" p) [a, .Tuple [.Name T1 q1, .Name T2 q2] x1 tpos] [] pos) (wIsi (orF f1 f2) [] wa) := by
  refine ⟨wIsi_mono ha.mono, pe_weak (pe_callB call_isiT hg hm (by decide +kernel) (pa_cons ha.pe (pa_cons (pe_tup (pa_cons (pe_bltn (v := .ty n1) hgT1 hT1 hb1 rfl hn1 hd1) (pa_cons (pe_bltn (v := .ty n2) hgT2 hT2 hb2 rfl hn2 hd2) pa_nil s2) s1)) pa_nil he2) he) (he := he) (hpl := hpl)) fun σ H Q h => ?_⟩
  obtain ⟨ρ, τ, hA, hw⟩ := h
  refine ⟨ρ, τ, hA, ha.mono (fun x ρ1 k nx l v H1 A1 => ?_) (fun _ _ e => e) hw⟩
  obtain ⟨B, h1, h2⟩ := A1.still nx
  split at k
  · rename_i b e
    unfold orF at e
    split at e
    · rename_i hn
      split at e
      · rename_i a1 a2 e1 e2
        cases e
        refine ⟨by rw [sizeLine_eq]; show 2 ≤ 16777216; decide, fun tp htp => ?_⟩
        have e3 : Same B (upd H1 tp (.tup [.ty n1, .ty n2])) := h2.hi.trans (same_upd htp)
        obtain ⟨t, g1, g2, g3⟩ := isi_two e3 h1 hn (hf1 _ _ e1) (hf2 _ _ e2)
        refine ⟨v, tp, [.ty n1, .ty n2], t, [.type n1, .type n2], a1 || a2, rfl, upd_same .., .cons (.ty n1) (.cons (.ty n2) .nil), hK ▸ g1, kitAny_cons (hK ▸ g2) (fun z => kitAny_cons (hK ▸ g3) (fun z2 => by rw [z, z2]; exact kitAny_nil) (fun z2 => by rw [z2, Bool.or_true])) (fun z => by rw [z, Bool.true_or]), ?_⟩
        refine k.2 (fun z => by cases z) l _ _ ?_
        obtain ⟨B', r'⟩ : RelE G (σ.zip ρ1 ++ τ) (upd H1 tp (.tup [.ty n1, .ty n2])) := ⟨_, h2.newH htp⟩
        exact At.addSh A1.len r' (.bl _)
      · cases e
    · cases e
  · exact k.elim
end
end DL
set_option Elab.async false
set_option maxRecDepth 100000
set_option maxHeartbeats 4000000
set_option linter.unusedVariables false
/-! data-level layer, part p: loops over zip; targets of two names -/
namespace DL
open PySem PySem.Spec PyProof.Rows L2 NdefX RZ
def zipD (ds es : List D) : List D := List.zipWith (fun d e => .tup [d, e]) ds es
theorem zipD_get {ds es : List D} {i : Nat} {z : D} (h : (zipD ds es)[i]? = some z) : ∃ d e, ds[i]? = some d ∧ es[i]? = some e ∧ z = .tup [d, e] := by
  unfold zipD at h
  rw [List.getElem?_zipWith] at h
  cases q1 : ds[i]? with
  | none => rw [q1] at h; cases h
  | some d => cases q2 : es[i]? with
    | none => rw [q1, q2] at h; cases h
    | some e => rw [q1, q2] at h; cases h; exact ⟨d, e, rfl, rfl, rfl⟩
theorem zipD_len {ds es : List D} : (zipD ds es).length = min ds.length es.length := by unfold zipD; exact List.length_zipWith ..
section
variable {G : Gx}
theorem srv_zipL {a b : Addr} {ds es : List D} : Srv G (Itz G.K a b) [(some (.ref a), .sh (.lst ds)), (some (.ref b), .sh (.lst es))] (zipD ds es) := by
  intro i R H B hr
  have qa : Rp G.K G.so B (.ref a) (.lst ds) := hr.rep (some (.ref a), .sh (.lst ds)) (by simp)
  have qb : Rp G.K G.so B (.ref b) (.lst es) := hr.rep (some (.ref b), .sh (.lst es)) (by simp)
  cases qa with
  | @lst _ vs _ ha hv => cases qb with
    | @lst _ us _ hb hu =>
      have sa : SqL G.K H a vs := .inl (.inl (hr.hi _ _ ha))
      have sb : SqL G.K H b us := .inl (.inl (hr.hi _ _ hb))
      refine ⟨fun z e => ?_, fun hl => ⟨vs, us, sa, sb, by rw [hv.len, hu.len]; rw [zipD_len] at hl; omega⟩⟩
      obtain ⟨d, e', e1, e2, rfl⟩ := zipD_get e
      obtain ⟨x, g1, g2⟩ := hv.get e1
      obtain ⟨y, g3, g4⟩ := hu.get e2
      refine ⟨⟨vs, us, x, y, sa, sb, g1, g3⟩, fun w H' hy => ?_⟩
      obtain ⟨T, x', y', rfl, hT, rfl, k1, k2⟩ := hy
      have h1 := k1 _ sa
      have h2 := k2 _ sb
      rw [g1] at h1; rw [g3] at h2
      cases h1; cases h2
      have nB := same_upd (o := HO.tup [x, y]) (hr.free hT)
      exact ⟨upd B T (.tup [x, y]), hr.newB hT, .tup (.inl (.inl (upd_same ..))) (.cons (g2.mono nB) (.cons (g4.mono nB) .nil))⟩
theorem srv_zipT {a b : Addr} {ds es : List D} : Srv G (ItzT G.K a b) [(some (.ref a), .sh (.tup ds)), (some (.ref b), .sh (.tup es))] (zipD ds es) := by
  intro i R H B hr
  have qa : Rp G.K G.so B (.ref a) (.tup ds) := hr.rep (some (.ref a), .sh (.tup ds)) (by simp)
  have qb : Rp G.K G.so B (.ref b) (.tup es) := hr.rep (some (.ref b), .sh (.tup es)) (by simp)
  cases qa with
  | @tup _ vs _ ha hv => cases qb with
    | @tup _ us _ hb hu =>
      have sa : SqT G.K H a vs := sqT_same hr.hi ha
      have sb : SqT G.K H b us := sqT_same hr.hi hb
      refine ⟨fun z e => ?_, fun hl => ⟨vs, us, sa, sb, by rw [hv.len, hu.len]; rw [zipD_len] at hl; omega⟩⟩
      obtain ⟨d, e', e1, e2, rfl⟩ := zipD_get e
      obtain ⟨x, g1, g2⟩ := hv.get e1
      obtain ⟨y, g3, g4⟩ := hu.get e2
      refine ⟨⟨vs, us, x, y, sa, sb, g1, g3⟩, fun w H' hy => ?_⟩
      obtain ⟨T, x', y', rfl, hT, rfl, k1, k2⟩ := hy
      have h1 := k1 _ sa
      have h2 := k2 _ sb
      rw [g1] at h1; rw [g3] at h2
      cases h1; cases h2
      have nB := same_upd (o := HO.tup [x, y]) (hr.free hT)
      exact ⟨upd B T (.tup [x, y]), hr.newB hT, .tup (.inl (.inl (upd_same ..))) (.cons (g2.mono nB) (.cons (g4.mono nB) .nil))⟩
end
/-- zip of two lists, of two tuples -/
def wZip (w : DT (List Sl)) : DT (List D) := fun ρ Q E => w ρ (fun xs ρ1 => match datas xs with
  | [.lst ds, .lst es] => Q (zipD ds es) ρ1
  | [.tup ds, .tup es] => Q (zipD ds es) ρ1
  | _ => False) E
theorem wZip_mono {w : DT (List Sl)} (h : Mono w) : Mono (wZip w) := fun _ _ _ _ _ hq he q => h (fun x ρ1 k => by
  split at k
  · exact hq _ _ k
  · exact hq _ _ k
  · exact k.elim) he q
section
variable {G : Gx} {X : Cx}
theorem di_zip {e e2 : Expr} {w : DT (List Sl)} {p pos tpos : Pos} {elts : List Expr} {kk : Nat} (hK : G.K = X.K) (hm : X.mg "zip" = none) (ha : DA G X [e, e2] w) (hg : Gl X "zip" := by rfl)
    (hs : starEach [e, e2] X.env = (false, eval e X.env) :: starEach [e2] X.env := by rfl) (hpl : (backTo pos (starEach [e2] X.env)).any (·.1) = false := by rfl) :
    DI G X (.Tuple elts kk tpos) (.Call (.Name "zip" p) [e, e2] [] pos) (wZip w) := by
  refine ⟨wZip_mono ha.mono, _, pi_zipA hg hm ha.pa hs hpl, fun σ H R q => ?_⟩
  obtain ⟨ρ, τ, hA, hw⟩ := q
  refine ⟨ρ, τ, hA, ha.mono (fun xs ρ1 k nxs ln l1 vs H1 lv A1 => ?_) (fun _ _ k => k) hw⟩
  obtain ⟨B, h1, h2⟩ := A1.stills lv nxs
  split at k
  · rename_i ds es e3
    rw [e3] at h1
    obtain ⟨va, vb, rfl, q1, q2⟩ := h1.two
    have z1 := q1; have z2 := q2
    cases q1 with
    | @lst a us _ g1 g2 => cases q2 with
      | @lst b ws _ g3 g4 =>
        refine ⟨a, b, us, ws, rfl, .inl ⟨.inl (.inl (h2.hi _ _ g1)), .inl (.inl (h2.hi _ _ g3)), ?_⟩⟩
        rw [← hK]
        refine k l1 _ _ H1 ⟨A1.len, B, ?_⟩ srv_zipL
        have := (h2.addSh z1).addSh z2
        simpa using this
  · rename_i ds es e3
    rw [e3] at h1
    obtain ⟨va, vb, rfl, q1, q2⟩ := h1.two
    have z1 := q1; have z2 := q2
    cases q1 with
    | @tup a us _ g1 g2 => cases q2 with
      | @tup b ws _ g3 g4 =>
        refine ⟨a, b, us, ws, rfl, .inr ⟨hK ▸ sqT_same h2.hi g1, hK ▸ sqT_same h2.hi g3, ?_⟩⟩
        rw [← hK]
        refine k l1 _ _ H1 ⟨A1.len, B, ?_⟩ srv_zipT
        have := (h2.addSh z1).addSh z2
        simpa using this
  · exact k.elim
end
end DL
set_option Elab.async false
set_option maxRecDepth 100000
set_option maxHeartbeats 4000000
set_option linter.unusedVariables false
/-! data-level layer, part q: targets of two names; comprehensions over them -/
namespace DL
open PySem PySem.Spec PyProof.Rows L2 NdefX
def dgTwo (i j : Nat) : DG := fun d ρ Q => match d with
  | .tup [a, b] => Q ((ρ.set i (.sh a)).set j (.sh b))
  | _ => False
theorem two_at {G : Gx} {K : PySem.W.Frag} {σ : St} {ρ : DEnv} {τ : Roots} {H B : Hp} {v : V} {a b : D} (i j : Nat) (hK : G.K = K) (l : ρ.length = σ.length) (hr : Rel G (σ.zip ρ ++ τ) H B) (hv : Rp G.K G.so B v (.tup [a, b])) :
    ∃ p va vb, v = .ref p ∧ SqT K H p [va, vb] ∧ At G ((σ.set i (some va)).set j (some vb)) ((ρ.set i (.sh a)).set j (.sh b)) τ H := by
  cases hv with
  | @tup p vs _ hs hvs =>
    obtain ⟨va, vb, rfl, q1, q2⟩ := hvs.two
    refine ⟨p, va, vb, rfl, hK ▸ sqT_same hr.hi hs, ?_⟩
    have A1 : At G σ ρ (τ ++ [(some vb, .sh b)]) H := At.addSh l hr q2
    have r2 : Rel G (σ.zip ρ ++ (τ ++ [(some vb, .sh b)])) H B := by rw [← List.append_assoc]; exact hr.addSh q2
    exact At.store j (At.store i (At.addSh l r2 q1))
section
variable {G : Gx} {X : Cx} {x y : Str} {k : Nat} {pos px py : Pos}
theorem pg_two (i j : Nat) (hc : X.calm = true) (hN : X.N.Nodup) (hi : X.N[i]? = some x) (hj : X.N[j]? = some y) (hx : Loc X.env.scope x) (hy : Loc X.env.scope y) (hfx : X.fn x = true ∨ X.env.scope.names.lookup x = some .local) (hfy : X.fn y = true ∨ X.env.scope.names.lookup y = some .local)
    (hs : (assignEach [Expr.Name x px, Expr.Name y py] X.env).map (·.2) = assign (.Name x px) X.env :: (assignEach [Expr.Name y py] X.env).map (·.2) := by rfl)
    (hs2 : (assignEach [Expr.Name y py] X.env).map (·.2) = assign (.Name y py) X.env :: (assignEach [] X.env).map (·.2) := by rfl)
    (hn : (assignEach [Expr.Name x px, Expr.Name y py] X.env).length = 2 := by rfl) (hst : (assignEach [Expr.Name x px, Expr.Name y py] X.env).findIdx? (·.1) = none := by rfl) :
    PG X (.Tuple [.Name x px, .Name y py] k pos) (gTup X.K 2 (gCons (gName i) (gCons (gName j) gNil))) :=
  pg_tup hc (pgs_cons (pg_name hN hi hx hfx) (pgs_cons (pg_name hN hj hy hfy) pgs_nil hs2) hs) hn hst
theorem dg_two (i j : Nat) (hK : G.K = X.K) (hc : X.calm = true) (hN : X.N.Nodup) (hi : X.N[i]? = some x := by rfl) (hj : X.N[j]? = some y := by rfl) (hx : Loc X.env.scope x := by first | exact Or.inl rfl | exact Or.inr rfl) (hy : Loc X.env.scope y := by first | exact Or.inl rfl | exact Or.inr rfl)
    (hfx : X.fn x = true ∨ X.env.scope.names.lookup x = some .local := by first | exact .inl rfl | exact .inr rfl) (hfy : X.fn y = true ∨ X.env.scope.names.lookup y = some .local := by first | exact .inl rfl | exact .inr rfl)
    (hs : (assignEach [Expr.Name x px, Expr.Name y py] X.env).map (·.2) = assign (.Name x px) X.env :: (assignEach [Expr.Name y py] X.env).map (·.2) := by rfl)
    (hs2 : (assignEach [Expr.Name y py] X.env).map (·.2) = assign (.Name y py) X.env :: (assignEach [] X.env).map (·.2) := by rfl)
    (hn : (assignEach [Expr.Name x px, Expr.Name y py] X.env).length = 2 := by rfl) (hst : (assignEach [Expr.Name x px, Expr.Name y py] X.env).findIdx? (·.1) = none := by rfl) :
    DTg G X (.Tuple [.Name x px, .Name y py] k pos) (dgTwo i j) := by
  refine ⟨fun d ρ Q Q' hq h => ?_, _, pg_two i j hc hN hi hj hx hy hfx hfy hs hs2 hn hst, fun v d σ ρ τ H B Q l hr hv h => ?_⟩
  · unfold dgTwo at h ⊢
    split at h
    · exact hq _ h
    · exact h.elim
  · unfold dgTwo at h
    split at h
    · rename_i a b
      obtain ⟨p, va, vb, rfl, hs, A⟩ := two_at i j hK l hr hv
      exact ⟨p, [va, vb], rfl, hs, rfl, va, [vb], rfl, vb, [], rfl, rfl, h (by rw [List.length_set, List.length_set]) _ H (by rw [List.length_set, List.length_set]) A⟩
    · exact h.elim
end
/-- a slot put aside -/
theorem slot_out {G : Gx} {σ : St} {ρ : DEnv} {τ : Roots} {H : Hp} (i : Nat) {y : Sl} (A : At G σ ρ τ H) (hy : ρ[i]? = some y) (hst : StillS y) :
    ∃ xr : Roots, At G (σ.set i none) (ρ.set i .un) (τ ++ xr) H ∧ ∀ ρ2 u H2, At G (σ.set i none) ρ2 (u ++ xr) H2 → At G σ (ρ2.set i y) u H2 := by
  have set2 : ∀ v : Option V, (σ.set i none).set i v = σ.set i v := fun v => List.set_set ..
  have seti : ∀ v : Option V, σ[i]? = some v → σ.set i v = σ := fun v e => by
    obtain ⟨hl, e2⟩ := List.getElem?_eq_some_iff.mp e
    rw [← e2]; exact List.set_getElem_self hl
  obtain ⟨L, R, v, e1, e2, _⟩ := zip_split A.len hy
  rcases hst with rfl | ⟨d, rfl⟩
  · refine ⟨[], by rw [List.append_nil]; exact A.wipe i none, fun ρ2 u H2 A2 => ?_⟩
    rw [List.append_nil] at A2
    have A3 := A2.wipe i v
    rw [set2, seti v e1] at A3
    exact A3
  · obtain ⟨B, hr⟩ := A.rel
    have z := hr.rep (v, .sh d) (by rw [e2]; simp)
    cases v with
    | none => exact z.elim
    | some v =>
      refine ⟨[(some v, .sh d)], (At.addSh A.len hr z).wipe i none, fun ρ2 u H2 A2 => ?_⟩
      have A3 := At.store i A2
      rw [set2, seti _ e1] at A3
      exact A3
/-- the turns of a comprehension over two names -/
def lcD2 (i j : Nat) (wt : DT Bool) (we : DT Sl) (Q : List D → DEnv → Prop) : List D → List D → DEnv → Prop
  | [], acc, ρ => Q acc ρ
  | d :: ds, acc, ρ => dgTwo i j d ρ fun ρ' => wt ρ' (fun b ρ2 => if b = true then we ρ2 (fun y ρ3 => acc.length < sizeLine ∧ lcD2 i j wt we Q ds (acc ++ [y.dat]) ((ρ3.set j .un).set i .un)) noE else lcD2 i j wt we Q ds acc ((ρ2.set j .un).set i .un)) noE
def wLc2 (i j : Nat) (wi : DT (List D)) (wt : DT Bool) (we : DT Sl) : DT Sl := fun ρ Q E => wi ρ (fun items ρ1 => ∃ x y, ρ1[j]? = some x ∧ StillS x ∧ (ρ1.set j .un)[i]? = some y ∧ StillS y ∧
  lcD2 i j wt we (fun acc ρ2 => ∀ p, Q (.ow p acc) ((ρ2.set i y).set j x)) items [] ((ρ1.set j .un).set i .un)) E
theorem dgTwo_mono {i j : Nat} : MonoG (dgTwo i j) := fun d ρ Q Q' hq h => by
  unfold dgTwo at h ⊢
  split at h
  · exact hq _ h
  · exact h.elim
theorem lcD2_mono {i j : Nat} {wt : DT Bool} {we : DT Sl} (ht : Mono wt) (he : Mono we) {Q Q' : List D → DEnv → Prop} (hq : ∀ acc ρ, Q acc ρ → Q' acc ρ) : ∀ (ds acc : List D) (ρ : DEnv), lcD2 i j wt we Q ds acc ρ → lcD2 i j wt we Q' ds acc ρ
  | [], acc, ρ, h => hq _ _ h
  | d :: ds, acc, ρ, h => dgTwo_mono (fun ρ' h => ht (fun b ρ2 k => by
      by_cases hb : b = true
      · rw [if_pos hb] at k ⊢
        exact he (fun y ρ3 k => ⟨k.1, lcD2_mono ht he hq _ _ _ k.2⟩) (fun _ _ z => z) k
      · rw [if_neg hb] at k ⊢
        exact lcD2_mono ht he hq _ _ _ k) (fun _ _ z => z) h) h
section
variable {G : Gx} {X : Cx}
theorem de_lc2 {elt iter : Expr} {ifs : List Expr} {scope : Scope} {pos px py tpos : Pos} {x y : Str} {kk : Nat} {wi : DT (List D)} {wt : DT Bool} {we : DT Sl} (i j : Nat) (hK : G.K = X.K) (hc : X.calm = true) (hN : X.N.Nodup) (hi : DI G X (.Tuple [.Name x px, .Name y py] kk tpos) iter wi) (mt : Mono wt) (me : Mono we)
    (ok : BlkOk X.N X.env.scope scope [(x, i), (y, j)])
    (hg : ∀ (s : Shared) (H : Hp) (C : Addr) (cl : List (Str × Addr)) (fp : List Addr), PG (X.blk s H scope (compEnvC scope cl C X.env) fp) (.Tuple [.Name x px, .Name y py] kk tpos) (gTup X.K 2 (gCons (gName i) (gCons (gName j) gNil))))
    (ht : ∀ (s : Shared) (H : Hp) (C : Addr) (cl : List (Str × Addr)) (fp : List Addr), PTs (X.blk s H scope (compEnvC scope cl C X.env) fp) ifs (tDB (G.wish fun _ _ _ _ => False) wt))
    (he : ∀ (s : Shared) (H : Hp) (C : Addr) (cl : List (Str × Addr)) (fp : List Addr), PE (X.blk s H scope (compEnvC scope cl C X.env) fp) elt (tD (G.wish fun _ _ _ _ => False) we))
    (hs : ∀ x, foldedSetIterable iter X.env x = pure x := by intro _; rfl) :
    DE G X (.ListComp elt [⟨.Tuple [.Name x px, .Name y py] kk tpos, iter, ifs, 0⟩] scope pos) (wLc2 i j wi wt we) := by
  obtain ⟨ti, hti, qi⟩ := hi.pi
  refine ⟨fun ρ Q Q' E E' hq he2 h => hi.mono (fun items ρ1 ⟨x, y, k1, k2, k3, k4, k5⟩ => ⟨x, y, k1, k2, k3, k4, lcD2_mono mt me (fun acc ρ2 k p => hq _ _ (k p)) _ _ _ k5⟩) he2 h, pe_weak (pe_lc hc hN hti ok hg ht he hs) fun σ H Q h => qi σ H _ ?_⟩
  obtain ⟨ρ, τ, hA, hw⟩ := h
  refine ⟨ρ, τ, hA, hi.mono (fun items ρ1 k l1 J t H1 A1 hJ => ?_) (fun _ _ e => e) hw⟩
  obtain ⟨xs, ys, hxs, sx, hys, sy, k⟩ := k
  intro D hD
  have hw0 : wipe σ ([(x, i), (y, j)].map (·.2)) = (σ.set j none).set i none := rfl
  have wipe2 : ∀ (a b : Option V), ((((((σ.set j none).set i none).set i a).set j b)).set j none).set i none = (σ.set j none).set i none := fun a b => by
    rw [List.set_set]
    by_cases hij : i = j
    · subst hij; simp only [List.set_set]
    · rw [List.set_set, List.set_comm _ _ (Ne.symm hij), List.set_set, List.set_comm _ _ hij, List.set_set, List.set_comm _ _ (Ne.symm hij)]
  obtain ⟨x1, B1, bk1⟩ := slot_out j A1 hxs sx
  obtain ⟨x2, B2, bk2⟩ := slot_out i B1 hys sy
  obtain ⟨lw, B0, r0⟩ := B2
  have A0 := (At.addOw lw r0 hD .nil).perm (τ' := τ ++ [(some (.ref D), .ow D [])] ++ x1 ++ x2 ++ t) (by
    simp only [List.append_assoc]
    refine List.Perm.append_left _ ?_
    have p1 : ([(some (V.ref D), Sl.ow D [])] ++ ((x1 ++ x2) ++ t)).Perm (((x1 ++ x2) ++ t) ++ [(some (V.ref D), Sl.ow D [])]) := List.perm_append_comm
    have p2 : (((x1 ++ x2) ++ t) ++ [(some (V.ref D), Sl.ow D [])]).Perm ((t ++ (x1 ++ x2)) ++ [(some (V.ref D), Sl.ow D [])]) := List.Perm.append_right _ List.perm_append_comm
    have p3 := p1.trans p2
    simp only [List.append_assoc] at p3
    exact p3)
  refine ⟨fun n m Hn => m = items.length - n ∧ n ≤ items.length ∧ ∃ ρn acc, ρn.length = ρ1.length ∧ At G ((σ.set j none).set i none) ρn (τ ++ [(some (.ref D), .ow D acc)] ++ x1 ++ x2 ++ t) Hn ∧
    lcD2 i j wt we (fun acc ρ2 => ∀ p, (fun x ρ' => x ≠ Sl.un → ρ'.length = ρ.length → ∀ v H', At G σ ρ' (τ ++ [(some v, x)]) H' → Q v H') (.ow p acc) ((ρ2.set i ys).set j xs)) (items.drop n) acc ρn, ⟨items.length, rfl, Nat.zero_le _, _, [], by rw [List.length_set, List.length_set], A0, k⟩, ?_⟩
  rintro n m Hn ⟨rfl, hn, ρn, acc, ln, An, kn⟩
  obtain ⟨Bn, rn⟩ := An.rel
  have rn2 := rn
  rw [← List.append_assoc] at rn2
  obtain ⟨go, stop⟩ := hJ n _ Hn Bn rn2
  by_cases hlt : n < items.length
  · right
    obtain ⟨g1, g2⟩ := go items[n] (List.getElem?_eq_getElem hlt)
    refine ⟨g1, fun H' => ∃ ρn acc, ρn.length = ρ1.length ∧ At G ((σ.set j none).set i none) ρn (τ ++ [(some (.ref D), .ow D acc)] ++ x1 ++ x2 ++ t) H' ∧
      lcD2 i j wt we (fun acc ρ2 => ∀ p, (fun x ρ' => x ≠ Sl.un → ρ'.length = ρ.length → ∀ v H', At G σ ρ' (τ ++ [(some v, x)]) H' → Q v H') (.ow p acc) ((ρ2.set i ys).set j xs)) (items.drop (n + 1)) acc ρn,
      fun H' ⟨ρ', acc', l', A', k'⟩ => ⟨items.length - (n + 1), by omega, rfl, hlt, ρ', acc', l', A', k'⟩, fun v H' hyl => ?_⟩
    obtain ⟨B2, r2, hx⟩ := g2 v H' hyl
    rw [List.drop_eq_getElem_cons hlt] at kn
    rw [hw0]
    have kn' : dgTwo i j items[n] ρn _ := kn
    unfold dgTwo at kn'
    split at kn'
    case h_2 => exact kn'.elim
    rename_i d1 d2 ed
    rw [ed] at hx
    obtain ⟨p, va, vb, rfl, hsq, A2⟩ := two_at (τ := τ ++ [(some (.ref D), .ow D acc)] ++ x1 ++ x2 ++ t) i j hK An.len (by rw [← List.append_assoc]; exact r2) hx
    refine ⟨p, [va, vb], rfl, hsq, rfl, va, [vb], rfl, vb, [], rfl, rfl, ?_⟩
    refine ⟨wipe2 _ _, ?_⟩
    refine ⟨_, _, A2.wish, mt (fun b ρ2 k2 l2 H2 A3 => ?_) (fun _ _ z => z.elim) kn'⟩
    have A3 := A3.unwish
    show if b = true then _ else _
    by_cases hb : b = true
    · rw [if_pos hb] at k2 ⊢
      refine ⟨ρ2, _, A3.wish, me (fun z ρ3 k3 nz l3 u H3 A4 => ?_) (fun _ _ z => z.elim) k2⟩
      have A4 := A4.unwish
      obtain ⟨ks, k3⟩ := k3
      obtain ⟨B4, r4⟩ := A4.freezeLast nz
      have l4 := A4.len
      have e4 : (((((σ.set j none).set i none).set i (some va)).set j (some vb))).zip ρ3 ++ (τ ++ [(some (V.ref D), Sl.ow D acc)] ++ x1 ++ x2 ++ t ++ [(some u, Sl.sh z.dat)]) = ((((((σ.set j none).set i none).set i (some va)).set j (some vb))).zip ρ3 ++ τ) ++ (some (V.ref D), Sl.ow D acc) :: (x1 ++ x2 ++ t ++ [(some u, Sl.sh z.dat)]) := by simp
      rw [e4] at r4
      have zD := r4.rep (some (V.ref D), Sl.ow D acc) (by simp)
      obtain ⟨_, ws, w1, w2⟩ : V.ref D = .ref D ∧ ∃ vs, H3 D = some (.lst vs) ∧ Rps G.K G.so B4 vs acc := zD
      have zu : Rp G.K G.so B4 u z.dat := r4.rep (some u, .sh z.dat) (by simp)
      have r5 := r4.change (es := acc ++ [z.dat]) (w2.append (.cons zu .nil))
      refine ⟨ws, w1, by rw [w2.len]; exact ks, (ρ3.set j .un).set i .un, acc ++ [z.dat], ?_, ?_, k3⟩
      · rw [List.length_set, List.length_set]
        have := l3.trans l2
        rw [List.length_set, List.length_set] at this
        omega
      · have A5 : At G (((((σ.set j none).set i none).set i (some va)).set j (some vb))) ρ3 (τ ++ [(some (V.ref D), Sl.ow D (acc ++ [z.dat]))] ++ x1 ++ x2 ++ t) (upd H3 D (.lst (ws ++ [u]))) := ⟨l4, B4, r5.sublist (by
          have e5 : (((((σ.set j none).set i none).set i (some va)).set j (some vb))).zip ρ3 ++ (τ ++ [(some (V.ref D), Sl.ow D (acc ++ [z.dat]))] ++ x1 ++ x2 ++ t) = ((((((σ.set j none).set i none).set i (some va)).set j (some vb))).zip ρ3 ++ τ) ++ (some (V.ref D), Sl.ow D (acc ++ [z.dat])) :: (x1 ++ x2 ++ t) := by simp
          rw [e5]
          exact List.Sublist.append (List.Sublist.refl _) (List.Sublist.cons_cons _ (List.sublist_append_left _ _)))⟩
        have A6 := (A5.wipe j none).wipe i none
        rw [wipe2] at A6
        exact A6
    · rw [if_neg hb] at k2 ⊢
      refine ⟨(ρ2.set j .un).set i .un, acc, ?_, ?_, k2⟩
      · rw [List.length_set, List.length_set]
        rw [List.length_set, List.length_set] at l2
        omega
      · have A6 := (A3.wipe j none).wipe i none
        rw [wipe2] at A6
        exact A6
  · left
    have e : n = items.length := by omega
    subst e
    rw [List.drop_length] at kn
    refine ⟨stop (Nat.le_refl _), kn D (fun z => by cases z) ?_ (.ref D) Hn (bk1 _ _ Hn (bk2 _ _ Hn An.drop))⟩
    rw [List.length_set, List.length_set]
    omega
end
end DL
set_option Elab.async false
set_option maxRecDepth 100000
set_option maxHeartbeats 4000000
set_option linter.unusedVariables false
/-! data-level layer, part r: sum of a list of ints -/
namespace DL
open PySem PySem.Spec PyProof.Rows L2 NdefX
def intOf : D → Int
  | .int i => i
  | _ => 0
def pSum : List D → Prop
  | [.lst ds] => ∃ ns : List Int, ds = ns.map D.int
  | _ => False
def fSum : List D → D
  | [.lst ds] => .int (ds.map intOf).sum
  | _ => .non
theorem map_intOf (ns : List Int) : (ns.map D.int).map intOf = ns := by
  rw [List.map_map]
  exact (List.map_congr_left fun _ _ => rfl).trans (List.map_id ns)
theorem opa_sum {G : Gx} : OpA G (rSum G.K) (roF pSum fSum) := opa_F fun so vs ds H B Q e hv hp k => by
  unfold pSum at hp
  split at hp
  · rename_i ds
    obtain ⟨ns, rfl⟩ := hp
    have k2 := k (.int ns.sum) (by
      have : fSum [.lst (ns.map D.int)] = .int ns.sum := by show D.int _ = _; rw [map_intOf]
      rw [this]; exact .int _)
    cases hv with
    | cons h1 h2 =>
      cases h2
      cases h1 with
      | lst hs hr =>
        have := hr.ints_of
        subst this
        exact ⟨_, ns, rfl, .inl (.inl (e _ _ hs)), k2⟩
  · exact hp.elim
abbrev wSum := wFun (roF pSum fSum)
section
variable {G : Gx} {X : Cx} {a : Expr} {wr : DT (List Sl)} {p pos : Pos}
theorem de_sum (hc : X.calm = true) (hK : G.K = X.K) (hm : X.mg "sum" = none) (ha : DA G X [a] wr) (hg : Gl X "sum" := by rfl) (he : starEach [a] X.env = (false, eval a X.env) :: starEach [] X.env := by rfl) : DE G X (.Call (.Name "sum" p) [a] [] pos) (wSum wr) := de_callB (cr_sum hc) (hK ▸ opa_sum) roF_mono hg hm (by decide +kernel) ha (he := he)
end
end DL
set_option Elab.async false
set_option maxRecDepth 100000
set_option maxHeartbeats 4000000
set_option linter.unusedVariables false
/-! data-level layer, part s: slices of lists -/
namespace DL
open PySem PySem.Spec PyProof.Rows L2 NdefX
def cutD (ds : List D) (lo hi : Option Int) : List D := (ds.drop (HT.sIx ds.length 0 lo)).take (HT.sIx ds.length ds.length hi - HT.sIx ds.length 0 lo)
theorem Rps.cut {K : PySem.W.Frag} {so : Option Addr} {B : Hp} {vs : List V} {ds : List D} (h : Rps K so B vs ds) (lo hi : Option Int) : Rps K so B (cutV vs lo hi) (cutD ds lo hi) := by
  unfold cutV cutD
  rw [h.len]
  exact (h.drop _).take _
/-- a[:e] -/
def wSlTo (wa we : DT Sl) : DT Sl := fun ρ Q E => wa ρ (fun x ρ1 => we ρ1 (fun y ρ2 => match x.dat, y.dat with
  | .lst ds, .int k => ∀ p, Q (.ow p (cutD ds none (some k))) ρ2
  | _, _ => False) E) E
/-- a[e:] -/
def wSlFrom (wa we : DT Sl) : DT Sl := fun ρ Q E => wa ρ (fun x ρ1 => we ρ1 (fun y ρ2 => match x.dat, y.dat with
  | .lst ds, .int k => ∀ p, Q (.ow p (cutD ds (some k) none)) ρ2
  | _, _ => False) E) E
theorem wSlTo_mono {wa we : DT Sl} (ha : Mono wa) (he : Mono we) : Mono (wSlTo wa we) := fun _ _ _ _ _ hq h2 q => ha (fun x ρ1 k => he (fun y ρ2 k => by
  split at k
  · exact fun p => hq _ _ (k p)
  · exact k.elim) h2 k) h2 q
theorem wSlFrom_mono {wa we : DT Sl} (ha : Mono wa) (he : Mono we) : Mono (wSlFrom wa we) := fun _ _ _ _ _ hq h2 q => ha (fun x ρ1 k => he (fun y ρ2 k => by
  split at k
  · exact fun p => hq _ _ (k p)
  · exact k.elim) h2 k) h2 q
section
variable {G : Gx} {X : Cx} {a e : Expr} {wa we : DT Sl} {pos p2 : Pos}
theorem sl_step {σ : St} {ρ2 : DEnv} {τ : Roots} {H2 : Hp} {Q : VK} {v u : V} {x y : Sl} {lo hi : Option Int} {ds : List D} {i : Int} (hK : G.K = X.K) (ny : y ≠ .un) (A2 : At G σ ρ2 (τ ++ [(some v, .sh x.dat)] ++ [(some u, y)]) H2) (ex : x.dat = .lst ds) (ey : y.dat = .int i)
    (k : ∀ p H', At G σ ρ2 (τ ++ [(some (.ref p), .ow p (cutD ds lo hi))]) H' → Q (.ref p) H') : u = .int i ∧ rSlL X.K v lo hi H2 Q := by
  obtain ⟨B2, g1, g2⟩ := A2.still ny
  rw [ey] at g1
  have z := g2.rep (some v, .sh x.dat) (by simp)
  rw [ex] at z
  have z : Rp G.K G.so B2 v (.lst ds) := z
  refine ⟨by cases g1; rfl, ?_⟩
  cases z with
  | @lst p0 vs _ hs hr =>
    refine ⟨p0, vs, rfl, .inl (.inl (g2.hi _ _ hs)), fun p hp => k p _ (At.addOw A2.len (g2.sublist ?_) hp (hr.cut lo hi))⟩
    rw [← List.append_assoc]
    exact List.sublist_append_left _ _
theorem de_slTo (hK : G.K = X.K) (ha : DE G X a wa) (he : DE G X e we) : DE G X (.Subscript a (.Slice none (some e) none p2) pos) (wSlTo wa we) := by
  refine ⟨wSlTo_mono ha.mono he.mono, pe_weak (pe_slice sl_list ha.pe po_none (po_some he.pe)) fun σ H Q h => ?_⟩
  obtain ⟨ρ, τ, hA, hw⟩ := h
  refine ⟨ρ, τ, hA, ha.mono (fun x ρ1 k nx l v H1 A1 => ?_) (fun _ _ e => e) hw⟩
  obtain ⟨B, h2⟩ := A1.freezeLast nx
  refine ⟨ρ1, _, ⟨A1.len, B, h2⟩, he.mono (fun y ρ2 k2 ny l2 u H2 A2 => ?_) xw_app k⟩
  split at k2
  · rename_i ds i ex ey
    obtain ⟨r1, r2⟩ := sl_step (X := X) (lo := none) (hi := some i) (Q := Q) hK ny A2 ex ey (fun p H' A' => k2 p (fun z => by cases z) (l2.trans l) _ H' A')
    exact ⟨i, r1, r2⟩
  · exact k2.elim
theorem de_slFrom (hK : G.K = X.K) (ha : DE G X a wa) (he : DE G X e we) : DE G X (.Subscript a (.Slice (some e) none none p2) pos) (wSlFrom wa we) := by
  refine ⟨wSlFrom_mono ha.mono he.mono, pe_weak (pe_slice sl_list ha.pe (po_some he.pe) po_none) fun σ H Q h => ?_⟩
  obtain ⟨ρ, τ, hA, hw⟩ := h
  refine ⟨ρ, τ, hA, ha.mono (fun x ρ1 k nx l v H1 A1 => ?_) (fun _ _ e => e) hw⟩
  obtain ⟨B, h2⟩ := A1.freezeLast nx
  refine ⟨ρ1, _, ⟨A1.len, B, h2⟩, he.mono (fun y ρ2 k2 ny l2 u H2 A2 => ?_) xw_app k⟩
  split at k2
  · rename_i ds i ex ey
    obtain ⟨r1, r2⟩ := sl_step (X := X) (lo := some i) (hi := none) (Q := Q) hK ny A2 ex ey (fun p H' A' => k2 p (fun z => by cases z) (l2.trans l) _ H' A')
    exact ⟨i, r1, r2⟩
  · exact k2.elim
end
end DL
set_option Elab.async false
set_option maxRecDepth 100000
set_option maxHeartbeats 4000000
set_option linter.unusedVariables false
/-! data-level layer, part t: the least and the greatest of a list of ints -/
namespace DL
open PySem PySem.Spec PyProof.Rows L2 NdefX
/-- min(xs) -/
def roMinL : AO := fun ds Q => match ds with
  | [.lst ds] => ∃ ns : List Int, ds = ns.map D.int ∧ 0 < ns.length ∧ ∀ m, m ∈ ns → (∀ y, y ∈ ns → m ≤ y) → Q (.sh (.int m))
  | _ => False
/-- max(xs) -/
def roMaxL : AO := fun ds Q => match ds with
  | [.lst ds] => ∃ ns : List Int, ds = ns.map D.int ∧ 0 < ns.length ∧ ∀ m, m ∈ ns → (∀ y, y ∈ ns → y ≤ m) → Q (.sh (.int m))
  | _ => False
theorem roMinL_mono : MonoA roMinL := fun ds Q Q' hq h => by
  unfold roMinL at h ⊢
  split at h
  · obtain ⟨ns, h1, h2, h3⟩ := h; exact ⟨ns, h1, h2, fun m a b => hq _ (h3 m a b)⟩
  · exact h.elim
theorem roMaxL_mono : MonoA roMaxL := fun ds Q Q' hq h => by
  unfold roMaxL at h ⊢
  split at h
  · obtain ⟨ns, h1, h2, h3⟩ := h; exact ⟨ns, h1, h2, fun m a b => hq _ (h3 m a b)⟩
  · exact h.elim
theorem opa_minL {G : Gx} : OpA G (rMin G.K) roMinL := by
  intro σ ρ τ vs ds H B Q l hr hv q
  unfold roMinL at q
  split at q
  · obtain ⟨ns, rfl, h2, h3⟩ := q
    cases hv with
    | cons g1 g2 =>
      cases g2
      cases g1 with
      | lst hs hw =>
        have e := hw.ints_of
        subst e
        exact ⟨_, ns, rfl, .inl (.inl (hr.hi _ _ hs)), h2, fun m a b => h3 m a b (fun z => by cases z) _ _ (At.addSh l hr (.int m))⟩
  · exact q.elim
theorem opa_maxL {G : Gx} : OpA G (rMax G.K) roMaxL := by
  intro σ ρ τ vs ds H B Q l hr hv q
  unfold roMaxL at q
  split at q
  · obtain ⟨ns, rfl, h2, h3⟩ := q
    cases hv with
    | cons g1 g2 =>
      cases g2
      cases g1 with
      | lst hs hw =>
        have e := hw.ints_of
        subst e
        exact ⟨_, ns, rfl, .inl (.inl (hr.hi _ _ hs)), h2, fun m a b => h3 m a b (fun z => by cases z) _ _ (At.addSh l hr (.int m))⟩
  · exact q.elim
abbrev wMinL := wFun roMinL
abbrev wMaxL := wFun roMaxL
section
variable {G : Gx} {X : Cx} {a : Expr} {wr : DT (List Sl)} {p pos : Pos}
theorem de_minL (hc : X.calm = true) (hK : G.K = X.K) (hm : X.mg "min" = none) (ha : DA G X [a] wr) (hg : Gl X "min" := by rfl) (he : starEach [a] X.env = (false, eval a X.env) :: starEach [] X.env := by rfl) : DE G X (.Call (.Name "min" p) [a] [] pos) (wMinL wr) := de_callB (cr_min hc) (hK ▸ opa_minL) roMinL_mono hg hm (by decide +kernel) ha (he := he)
theorem de_maxL (hc : X.calm = true) (hK : G.K = X.K) (hm : X.mg "max" = none) (ha : DA G X [a] wr) (hg : Gl X "max" := by rfl) (he : starEach [a] X.env = (false, eval a X.env) :: starEach [] X.env := by rfl) : DE G X (.Call (.Name "max" p) [a] [] pos) (wMaxL wr) := de_callB (cr_max hc) (hK ▸ opa_maxL) roMaxL_mono hg hm (by decide +kernel) ha (he := he)
end
end DL
set_option Elab.async false
set_option maxRecDepth 100000
set_option maxHeartbeats 4000000
set_option linter.unusedVariables false
/-! data-level layer, part u: loops over enumerate of a list -/
namespace DL
open PySem PySem.Spec PyProof.Rows L2 NdefX
def enumD (ds : List D) : List D := ds.mapIdx fun i d => .tup [.int (i : Nat), d]
theorem enumD_get {ds : List D} {i : Nat} {z : D} (h : (enumD ds)[i]? = some z) : ∃ d, ds[i]? = some d ∧ z = .tup [.int (i : Nat), d] := by
  unfold enumD at h
  rw [List.getElem?_mapIdx, Option.map_eq_some_iff] at h
  obtain ⟨d, e1, e2⟩ := h
  exact ⟨d, e1, e2.symm⟩
theorem enumD_len {ds : List D} : (enumD ds).length = ds.length := by unfold enumD; exact List.length_mapIdx
section
variable {G : Gx}
theorem srv_enum {a : Addr} {ds : List D} : Srv G (Ite G.K a) [(some (.ref a), .sh (.lst ds))] (enumD ds) := by
  intro i R H B hr
  have qa : Rp G.K G.so B (.ref a) (.lst ds) := hr.rep (some (.ref a), .sh (.lst ds)) (by simp)
  cases qa with
  | @lst _ vs _ ha hv =>
    have sa : SqL G.K H a vs := .inl (.inl (hr.hi _ _ ha))
    refine ⟨fun z e => ?_, fun hl => ⟨vs, sa, by rw [hv.len]; rw [enumD_len] at hl; exact hl⟩⟩
    obtain ⟨d, e1, rfl⟩ := enumD_get e
    obtain ⟨x, g1, g2⟩ := hv.get e1
    refine ⟨⟨vs, x, sa, g1⟩, fun w H' hy => ?_⟩
    obtain ⟨T, x', rfl, hT, rfl, k1⟩ := hy
    have h1 := k1 _ sa
    rw [g1] at h1
    cases h1
    have nB := same_upd (o := HO.tup [.int (i : Nat), x]) (hr.free hT)
    exact ⟨upd B T (.tup [.int (i : Nat), x]), hr.newB hT, .tup (.inl (.inl (upd_same ..))) (.cons (.int _) (.cons (g2.mono nB) .nil))⟩
end
/-- enumerate(xs) -/
def wEnum (w : DT (List Sl)) : DT (List D) := fun ρ Q E => w ρ (fun xs ρ1 => match datas xs with
  | [.lst ds] => Q (enumD ds) ρ1
  | _ => False) E
theorem wEnum_mono {w : DT (List Sl)} (h : Mono w) : Mono (wEnum w) := fun _ _ _ _ _ hq he q => h (fun x ρ1 k => by
  split at k
  · exact hq _ _ k
  · exact k.elim) he q
section
variable {G : Gx} {X : Cx}
theorem di_enum {e : Expr} {w : DT (List Sl)} {p pos tpos : Pos} {elts : List Expr} {kk : Nat} (hK : G.K = X.K) (hm : X.mg "enumerate" = none) (ha : DA G X [e] w) (hg : Gl X "enumerate" := by rfl) (hs : starEach [e] X.env = [(false, eval e X.env)] := by rfl) :
    DI G X (.Tuple elts kk tpos) (.Call (.Name "enumerate" p) [e] [] pos) (wEnum w) := by
  refine ⟨wEnum_mono ha.mono, _, pi_enum hg hm ha.pa hs, fun σ H R q => ?_⟩
  obtain ⟨ρ, τ, hA, hw⟩ := q
  refine ⟨ρ, τ, hA, ha.mono (fun xs ρ1 k nxs ln l1 vs H1 lv A1 => ?_) (fun _ _ k => k) hw⟩
  obtain ⟨B, h1, h2⟩ := A1.stills lv nxs
  split at k
  · rename_i ds e3
    rw [e3] at h1
    cases h1 with
    | cons q1 q2 =>
      cases q2
      have z1 := q1
      cases q1 with
      | @lst a us _ g1 g2 =>
        refine ⟨a, us, rfl, .inl (.inl (h2.hi _ _ g1)), ?_⟩
        rw [← hK]
        exact k l1 _ _ H1 (At.addSh A1.len h2 z1) srv_enum
  · exact k.elim
end
end DL
set_option Elab.async false
set_option maxRecDepth 100000
set_option maxHeartbeats 4000000
set_option linter.unusedVariables false
/-! data-level layer, part v: x.pop(e), x a list of one's own -/
namespace DL
open PySem PySem.Spec PyProof.Rows L2 NdefX
theorem Rps.erase {K : PySem.W.Frag} {so : Option Addr} {B : Hp} : ∀ {vs : List V} {ds : List D} (k : Nat), Rps K so B vs ds → Rps K so B (vs.eraseIdx k) (ds.eraseIdx k)
  | _, _, _, .nil => .nil
  | _, _, 0, .cons _ r => r
  | _, _, k + 1, .cons h r => .cons h (Rps.erase k r)
def wPopAt (i : Nat) (we : DT Sl) : DT Sl := fun ρ Q E => match ρ[i]? with
  | some (.ow p _) => we ρ (fun y ρ1 => match ρ1[i]?, y.dat with
    | some (.ow p' ds), .int k => p' = p ∧ -(2 ^ 63) ≤ k ∧ k < 2 ^ 63 ∧ ∃ j z, seqIndex? k ds.length = some j ∧ ds[j]? = some z ∧ Q (.sh z) (ρ1.set i (.ow p' (ds.eraseIdx j)))
    | _, _ => False) E
  | _ => False
theorem wPopAt_mono {i : Nat} {we : DT Sl} (h : Mono we) : Mono (wPopAt i we) := fun ρ _ _ _ _ hq he q => by
  unfold wPopAt at q ⊢
  split at q
  · refine h (fun y ρ1 k => ?_) he q
    split at k
    · obtain ⟨k1, k2, k3, j, z, k4, k5, k6⟩ := k
      exact ⟨k1, k2, k3, j, z, k4, k5, hq _ _ k6⟩
    · exact k.elim
  · exact q.elim
section
variable {G : Gx} {X : Cx} {e : Expr} {we : DT Sl} {pos : Pos}
theorem de_popAt (i : Nat) {x : Str} {px apos : Pos} (hK : G.K = X.K) (he : DE G X e we) (hN : X.N[i]? = some x := by rfl) (hv : Vis X.env.scope x := by first | exact Or.inl rfl | exact Or.inr (Or.inl rfl) | exact Or.inr (Or.inr rfl)) (hd : (x == ("__debug__" : Str)) = false := by decide)
    (hcd : (x == ("__classdict__" : Str)) = false := by decide)
    (hst : starEach [e] X.env = (false, eval e X.env) :: starEach [] X.env := by rfl)
    (hbm : ∀ {to : TE} {ta : TA}, PE X (.Name x px) to → PA X [e] ta → PE X (.Call (.Attribute (.Name x px) "pop" apos) [e] [] pos) (tBM X.K "list" rPopAt to ta) := by
      exact fun ho ha => pe_bm PySem.F.plainAttrs_list PySem.F.slot_list_pop PySem.F.type_list_pop mt_popAt ho ha) :
    DE G X (.Call (.Attribute (.Name x px) "pop" apos) [e] [] pos) (wPopAt i we) := by
  refine ⟨wPopAt_mono he.mono, pe_weak (hbm (pe_var hN hv hd hcd) (pa_cons he.pe pa_nil hst)) fun σ H Q h => ?_⟩
  obtain ⟨ρ, τ, hA, hw⟩ := h
  unfold wPopAt at hw
  split at hw
  · rename_i p ds e1
    obtain ⟨L, R, v, h1, h2, h3⟩ := zip_split hA.len e1
    obtain ⟨B, hr⟩ := hA.rel
    rw [h2] at hr
    have q := hr.rep (v, .ow p ds) (by simp)
    cases v with
    | none => exact q.elim
    | some v =>
      obtain ⟨rfl, vs, q1, q2⟩ : v = .ref p ∧ ∃ vs, H p = some (.lst vs) ∧ Rps G.K G.so B vs ds := q
      refine ⟨.ref p, h1, .inl ⟨rfl, _, .inl (.inl q1)⟩, ?_⟩
      show tD G we σ H _
      refine ⟨ρ, τ, hA, he.mono (fun y ρ1 k ny l u H1 A1 => ?_) (fun _ _ e => e) hw⟩
      split at k
      · rename_i p' ds' kk e2 ey
        obtain ⟨rfl, k1, k2, j, z, k3, k4, k5⟩ := k
        obtain ⟨B1, g0, r1⟩ := A1.still ny
        rw [ey] at g0
        obtain ⟨L1, R1, v1, g1, g2, g3⟩ := zip_split A1.len e2
        rw [g2] at r1
        have zz := r1.rep (v1, .ow p' ds') (by simp)
        rw [h1] at g1
        cases g1
        obtain ⟨_, vs1, z1, z2⟩ : V.ref p' = .ref p' ∧ ∃ vs, H1 p' = some (.lst vs) ∧ Rps G.K G.so B1 vs ds' := zz
        obtain ⟨w, w1, w2⟩ := z2.get k4
        obtain rfl : u = .int kk := by cases g0; rfl
        refine ⟨p', vs1, kk, j, w, rfl, rfl, z1, k1, k2, by rw [z2.len]; exact k3, w1, ?_⟩
        refine k5 (fun z => by cases z) (by rw [List.length_set]; exact l) w _ ?_
        rw [List.append_assoc, List.cons_append] at r1
        have c := r1.change (es := ds'.eraseIdx j) (z2.erase j)
        refine At.addSh (by rw [List.length_set]; exact A1.len) (B := B1) ?_ w2
        rw [g3, List.append_assoc, List.cons_append]
        exact c
      · exact k.elim
  · exact hw.elim
end
end DL
set_option Elab.async false
set_option maxRecDepth 100000
set_option maxHeartbeats 4000000
set_option linter.unusedVariables false
/-! data-level layer, part w: xs[::-1] of a list -/
namespace DL
open PySem PySem.Spec PyProof.Rows L2 NdefX
def wRevSl (wa : DT Sl) : DT Sl := fun ρ Q E => wa ρ (fun x ρ1 => match x.dat with
  | .lst ds => ∀ p, Q (.ow p ds.reverse) ρ1
  | _ => False) E
theorem wRevSl_mono {wa : DT Sl} (h : Mono wa) : Mono (wRevSl wa) := fun _ _ _ _ _ hq he q => h (fun x ρ1 k => by
  split at k
  · exact fun p => hq _ _ (k p)
  · exact k.elim) he q
theorem de_revSl {G : Gx} {X : Cx} {e : Expr} {we : DT Sl} {k : Nat} {p1 p2 p3 pos : Pos} (hK : G.K = X.K) (he : DE G X e we) : DE G X (.Subscript e (.Slice none none (some (.UnaryOp .USub (.Constant (.int 1) k p1) p2)) p3) pos) (wRevSl we) := by
  refine ⟨wRevSl_mono he.mono, pe_weak (pe_revL he.pe) fun σ H Q h => ?_⟩
  obtain ⟨ρ, τ, hA, hw⟩ := h
  refine ⟨ρ, τ, hA, he.mono (fun x ρ1 k nx l v H1 A1 => ?_) (fun _ _ e => e) hw⟩
  obtain ⟨B, h1, h2⟩ := A1.still nx
  split at k
  · rename_i ds ex
    rw [ex] at h1
    cases h1 with
    | @lst a vs _ hs hr =>
      exact ⟨a, vs, rfl, .inl (.inl (h2.hi _ _ hs)), fun p hp => k p (fun z => by cases z) l _ _ (At.addOw A1.len h2 hp hr.reverse)⟩
  · exact k.elim
end DL
set_option Elab.async false
set_option maxRecDepth 100000
set_option maxHeartbeats 4000000
set_option linter.unusedVariables false
/-! data-level layer, part x: comprehensions, as a printer takes them -/
namespace DL
open PySem PySem.Spec PyProof.Rows L2 NdefX
theorem wTrue_mono : Mono wTrue := fun _ _ _ _ _ hq _ h => hq _ _ h
section
variable {G : Gx} {X : Cx} {elt iter c : Expr} {scope : Scope} {pos px py tpos : Pos} {x y : Str} {kk : Nat} {wi : DT (List D)} {wt : DT Bool} {we : DT Sl}
abbrev Gn (G : Gx) : Gx := G.wish fun _ _ _ _ => False
abbrev Xb (X : Cx) (scope : Scope) (s : Shared) (H : Hp) (C : Addr) (cl : List (Str × Addr)) (fp : List Addr) : Cx := X.blk s H scope (compEnvC scope cl C X.env) fp
def s0 : Shared := {}
theorem de_lcA (i : Nat) (hc : X.calm = true) (hN : X.N.Nodup) (hi : DI G X (.Name x px) iter wi) (ok : BlkOk X.N X.env.scope scope [(x, i)])
    (hg : ∀ (s : Shared) (H : Hp) (C : Addr) (cl : List (Str × Addr)) (fp : List Addr), PG (Xb X scope s H C cl fp) (.Name x px) (gName i))
    (he : ∀ (s : Shared) (H : Hp) (C : Addr) (cl : List (Str × Addr)) (fp : List Addr), DE (Gn G) (Xb X scope s H C cl fp) elt we)
    (hs : ∀ x, foldedSetIterable iter X.env x = pure x := by intro _; rfl) : DE G X (.ListComp elt [⟨.Name x px, iter, [], 0⟩] scope pos) (wLc i wi wTrue we) :=
  de_lc i hc hN hi wTrue_mono (he s0 (fun _ => none) 0 [] []).mono ok hg (fun _ _ _ _ _ => pts_true) (fun s H C cl fp => (he s H C cl fp).pe) hs
theorem de_lcB (i : Nat) (hc : X.calm = true) (hN : X.N.Nodup) (hi : DI G X (.Name x px) iter wi) (ok : BlkOk X.N X.env.scope scope [(x, i)])
    (hg : ∀ (s : Shared) (H : Hp) (C : Addr) (cl : List (Str × Addr)) (fp : List Addr), PG (Xb X scope s H C cl fp) (.Name x px) (gName i))
    (ht : ∀ (s : Shared) (H : Hp) (C : Addr) (cl : List (Str × Addr)) (fp : List Addr), DB (Gn G) (Xb X scope s H C cl fp) c wt)
    (he : ∀ (s : Shared) (H : Hp) (C : Addr) (cl : List (Str × Addr)) (fp : List Addr), DE (Gn G) (Xb X scope s H C cl fp) elt we)
    (hs : ∀ x, foldedSetIterable iter X.env x = pure x := by intro _; rfl) : DE G X (.ListComp elt [⟨.Name x px, iter, [c], 0⟩] scope pos) (wLc i wi wt we) :=
  de_lc i hc hN hi (ht s0 (fun _ => none) 0 [] []).mono (he s0 (fun _ => none) 0 [] []).mono ok hg (fun s H C cl fp => pts_cond (ht s H C cl fp)) (fun s H C cl fp => (he s H C cl fp).pe) hs
theorem de_lc2A (i j : Nat) (hK : G.K = X.K) (hc : X.calm = true) (hN : X.N.Nodup) (hi : DI G X (.Tuple [.Name x px, .Name y py] kk tpos) iter wi) (ok : BlkOk X.N X.env.scope scope [(x, i), (y, j)])
    (hg : ∀ (s : Shared) (H : Hp) (C : Addr) (cl : List (Str × Addr)) (fp : List Addr), PG (Xb X scope s H C cl fp) (.Tuple [.Name x px, .Name y py] kk tpos) (gTup X.K 2 (gCons (gName i) (gCons (gName j) gNil))))
    (he : ∀ (s : Shared) (H : Hp) (C : Addr) (cl : List (Str × Addr)) (fp : List Addr), DE (Gn G) (Xb X scope s H C cl fp) elt we)
    (hs : ∀ x, foldedSetIterable iter X.env x = pure x := by intro _; rfl) : DE G X (.ListComp elt [⟨.Tuple [.Name x px, .Name y py] kk tpos, iter, [], 0⟩] scope pos) (wLc2 i j wi wTrue we) :=
  de_lc2 i j hK hc hN hi wTrue_mono (he s0 (fun _ => none) 0 [] []).mono ok hg (fun _ _ _ _ _ => pts_true) (fun s H C cl fp => (he s H C cl fp).pe) hs
end
end DL
set_option Elab.async false
set_option maxRecDepth 100000
set_option maxHeartbeats 4000000
set_option linter.unusedVariables false
/-! data-level layer, part y: list comprehensions over a list while an error is handled -/
namespace DL
open PySem PySem.Spec PyProof.Rows L2 NdefX

/-- a list's iterator at its end, while an error is handled -/
theorem listEnd_hot {prog : Program} {w : World} {A : Around} {E : Value → Shared → Prop} {s : Shared} {it l x1 : Addr} {i : Nat} {items : Array Value} {Q : Option Value → Shared → Prop}
    (hot : HotX.HotAt A x1 s.heap) (hne : x1 ≠ it) (hit : s.heap.IsListIter it l i) (hl : s.heap.IsList l items) (hx : items[i]? = none)
    (hQ : ∀ h', Heap.ExtBut it s.heap h' → Q none { s with heap := h' }) : wpAny (model prog w) A (pyNext (.ref it)) Q E s := by
  obtain ⟨oi, gi, ci, di⟩ := id hit
  obtain ⟨ol, gl, _, nl, dl⟩ := hl
  obtain ⟨hh, o1, vs1, g1, d1, c1⟩ := hot
  unfold pyNext
  refine wpAny_bind (wpAny_attempt (wpAny_callSpecial?_slot (name := Str.ofString "__next__") hit.typeIs slot_listiter_next (wpAny_call_entry slot_listiter_next hit.typeIs entry_listiter_next ?_ (args_listiter_next _))))
  show wpAny _ _ (field (.ref it) 0 >>= _) _ _ s
  refine wpAny_bind (wpAny_field gi di (x := .ref l) rfl ?_)
  show wpAny _ _ (if (Value.ref l == Value.none) = true then _ else _) _ _ s
  rw [if_neg (show ¬ ((Value.ref l == Value.none) = true) from Bool.false_ne_true)]
  show wpAny _ _ (field (.ref it) 1 >>= _) _ _ s
  refine wpAny_bind (wpAny_field gi di (x := .int i 0) rfl ?_)
  show wpAny _ _ (seqItems? (.ref l) >>= _) _ _ s
  refine wpAny_bind (wpAny_seqItems gl dl ?_)
  simp only [Int.toNat_natCast, hx]
  refine wpAny_bind (wpAny_rule (wpAny_bind (wpAny_setField gi di (by simp) ?_)))
  show wpAny _ _ (newExc (.type "StopIteration") [] >>= _) _ _ _
  refine wpAny_bind ?_
  simp only [newExc, newTuple]
  refine wpAny_bind (wpAny_newObj_type (wpAny_bind (m := firstArgMember _ _) (wpAny_of_eq (a := Value.none) (by first | rfl | (simp only [firstArgMember]; rfl)) (wpAny_newObj_type ?_ (by size_fits)))) (by size_fits))
  have q1 : ∀ (f : Obj → Obj), (s.heap.update it f).get? x1 = some o1 := fun f => (Heap.get?_update_other _ _ hne.symm).trans g1
  refine HotX.raiseNew_hot (x1 := x1) ⟨hh, o1, vs1, Heap.get?_push_of_some _ (Heap.get?_push_of_some _ (q1 _)), d1, c1⟩ (Nat.ne_of_lt (Heap.lt_size (Heap.get?_push_of_some _ (q1 _)))) (Heap.get?_push_size _ rfl) rfl (by first | (simp; done) | (simp; omega) | (simp only [Array.size_append]; simp; omega)) ?_
  refine wpAny_bind (wpAny_isInstance (T := "StopIteration") (b := true) ⟨_, Heap.get?_update_self _ (Heap.get?_push_size _ rfl) rfl, rfl⟩ isSubtype_stop (wpAny_pure (hQ _ fun b o hb e => ?_)))
  have e1 : ∀ (f : Obj → Obj), (s.heap.update it f).get? b = some o := fun f => (Heap.get?_update_other _ _ (Ne.symm hb)).trans e
  rw [Heap.get?_update_other _ _ (Nat.ne_of_gt (Heap.lt_size (Heap.get?_push_of_some _ (e1 _))))]
  exact Heap.get?_push_of_some _ (Heap.get?_push_of_some _ (e1 _))

/-- a block's context that bears the pins -/
abbrev blkH (X : Cx) (s : Shared) (H : Hp) (scope : Scope) (cenv : Env) (fp : List Addr) : Cx := { X.blk s H scope cenv fp with pn := X.pn }
theorem repin {X : Cx} {s s1 : Shared} {H H1 : Hp} {scope : Scope} {cenv : Env} {fp : List Addr} {σ : St} (I : Inv (X.blk s H scope cenv fp) [] σ H1 s1)
    (h : ∀ p ∈ X.pn, s1.heap.get? p.1 = some p.2 ∧ H1 p.1 = none ∧ p.1 ≠ cenv.locals ∧ p.1 ∉ frs X.stack ∧ ∀ v, p.2.data ≠ .cell v) : Inv (blkH X s H scope cenv fp) [] σ H1 s1 :=
  have o := I.ok
  { ok := { mod := o.mod, kind := o.kind, glob := o.glob, blt := o.blt, above := o.above, inj := o.inj, has := o.has, cab := o.cab, hd := o.hd, frames := o.frames, stk := o.stk, exf := o.exf, bs := o.bs, bsz := o.bsz, noex := o.noex, exfs := o.exfs, funs := o.funs, frf := o.frf },
    os := I.os, bare := I.bare, base := I.base, loc := I.loc, cell := I.cell, free := I.free, freeC := I.freeC, pin := fun p hp => h p (by simpa using hp), hok := I.hok, len := I.len }

section
variable {X : Cx}
theorem pe_lcH {elt iter : Expr} {scope : Scope} {pos px : Pos} {x : Str} {i : Nat} {ifs : List Expr} {ti te : TE} {tt : TT} (hot : L2H.HotC X) (hN : X.N.Nodup) (hi : PE X iter ti) (ok : BlkOk X.N X.env.scope scope [(x, i)])
    (hg : ∀ (s : Shared) (H : Hp) (C : Addr) (cl : List (Str × Addr)) (fp : List Addr), PG (blkH X s H scope (compEnvC scope cl C X.env) fp) (.Name x px) (gName i))
    (ht : ∀ (s : Shared) (H : Hp) (C : Addr) (cl : List (Str × Addr)) (fp : List Addr), PTs (blkH X s H scope (compEnvC scope cl C X.env) fp) ifs tt)
    (he : ∀ (s : Shared) (H : Hp) (C : Addr) (cl : List (Str × Addr)) (fp : List Addr), PE (blkH X s H scope (compEnvC scope cl C X.env) fp) elt te)
    (hs : ∀ x, foldedSetIterable iter X.env x = pure x := by intro _; rfl) :
    PE X (.ListComp elt [⟨.Name x px, iter, ifs, 0⟩] scope pos) (tLc (iList X.K ti) (gName i) tt te [i]) := by
  refine ⟨fun pins s σ H Q I h => ?_⟩
  rw [eval_ListComp]
  have caps : ∀ y ∈ scope.names, y.2 = .free → ∃ c, X.env.cells.lookup y.1 = some c := fun y hy e => (ok.free y hy e).elim (fun z => I.ok.has _ (.inl z)) fun z => I.ok.has _ (.inr z)
  refine wpAny_comprehension_free (use := none) rfl hs (closure_ok caps) ok.kind (fun y hy e => by rw [ok.uniq y hy, e]) (thn (hi.run pins s σ H _ I h) fun v s1 ⟨vx, H1, I1, r1, q1⟩ => ?_)
  obtain ⟨a, ev, ⟨xs0, hl0⟩, q⟩ := q1
  subst ev
  cases r1
  obtain ⟨its, rv, pl, hz⟩ := I1.list hl0
  refine wpAny_pyIter_list pl.isList ?_
  generalize hit : s1.heap.objs.size = it
  have fpo : FpOk X pins H1 it := I1.fpOk (Nat.le_of_eq hit) (I1.hok.fresh (Nat.le_of_eq hit))
  generalize hs2 : ({ s1 with heap := s1.heap.push _ } : Shared) = s2
  have I2 : Inv X pins σ H1 s2 := by rw [← hs2]; exact I1.kept (t' := s1.toks) fun b o e => Heap.get?_push_of_some _ e
  have st2 : s2.heap.IsListIter it a 0 := by rw [← hs2, ← hit]; exact ⟨_, Heap.get?_push_size _ rfl, rfl, rfl⟩
  have pl2 : SqL X.K H1 a xs0 := hl0
  refine wpAny_newObj_type (newEnv_comp ?_) (by show 0 ≤ sizeLine; decide)
  generalize hD : s2.heap.objs.size = D
  have dn : H1 D = none := I2.hok.fresh (Nat.le_of_eq hD)
  obtain ⟨W, ⟨m0, w0⟩, turn⟩ := q D dn
  generalize hs3 : ({ s2 with heap := s2.heap.push { cls := .type "list", data := .seq ([] : List Value).toArray } } : Shared) = s3
  have h3 : s3.heap = s2.heap.push { cls := .type "list", data := .seq ([] : List Value).toArray } := by rw [← hs3]
  have I3 : Inv X pins σ (upd H1 D (.lst [])) s3 := by
    rw [← hs3]
    refine I2.laid (t' := s2.toks) (fun b o e => Heap.get?_push_of_some _ e) (Nat.le_of_eq hD) ⟨Nat.zero_le _, [], 0, .nil, ?_⟩
    rw [← hD]; exact Heap.get?_push_size _ rfl
  have itlt : it < s2.heap.objs.size := by obtain ⟨o, e, _, _⟩ := st2; exact Heap.lt_size e
  have neD : it ≠ D := by rw [← hD]; exact Nat.ne_of_lt itlt
  have f3 : ∀ b ∈ [it], FpOk X pins (upd H1 D (.lst [])) b ∧ b < s3.heap.objs.size := fun b hb => by
    have eb : b = it := by simpa using hb
    rw [eb, h3, Heap.size_push]
    exact ⟨⟨by rw [upd_ne neD]; exact fpo.1, fpo.2⟩, Nat.lt_succ_of_lt itlt⟩
  have st3 : s3.heap.IsListIter it a 0 := st2.at fun o e => by rw [h3]; exact Heap.get?_push_of_some _ e
  have I4 := block_start I3 ok hN f3
  have pg := hg s3 (upd H1 D (.lst [])) s3.heap.objs.size (cellsFrom (s3.heap.objs.size + 1) scope.names (cloFrom X.env.cells scope.names [])) [it]
  have pt := ht s3 (upd H1 D (.lst [])) s3.heap.objs.size (cellsFrom (s3.heap.objs.size + 1) scope.names (cloFrom X.env.cells scope.names [])) [it]
  have pe := he s3 (upd H1 D (.lst [])) s3.heap.objs.size (cellsFrom (s3.heap.objs.size + 1) scope.names (cloFrom X.env.cells scope.names [])) [it]
  show codeAny _ _ (.compStart (.ListComp elt [⟨.Name x px, iter, ifs, 0⟩] scope pos) 0 (.ref it) (.ref D) (compEnvC scope (cellsFrom (s3.heap.objs.size + 1) scope.names (cloFrom X.env.cells scope.names [])) s3.heap.objs.size X.env)) (compPost (model X.prog X.w) X.A X.xe none _ (.ref D) s3.heap.objs.size) { s3 with heap := pushCells (s3.heap.push { cls := .type "dict", data := .dict #[] }) scope.names }
  generalize hce : compEnvC scope (cellsFrom (s3.heap.objs.size + 1) scope.names (cloFrom X.env.cells scope.names [])) s3.heap.objs.size X.env = ce at I4 pg pt pe ⊢
  have cL : ce.locals = s3.heap.objs.size := by subst hce; rfl
  generalize hH3 : upd H1 D (.lst []) = H3 at I3 I4 pg pt pe w0 f3
  generalize hs4 : ({ s3 with heap := pushCells (s3.heap.push { cls := .type "dict", data := .dict #[] }) scope.names } : Shared) = s4 at I4 ⊢
  have st4 : s4.heap.IsListIter it a 0 := st3.at fun o e => by rw [← hs4]; exact pushCells_keeps _ _ _ _ (Heap.get?_push_of_some _ e)
  -- the pins, in the block
  have pinB : ∀ p ∈ X.pn, s3.heap.get? p.1 = some p.2 ∧ H3 p.1 = none ∧ p.1 ≠ ce.locals ∧ p.1 ∉ frs X.stack ∧ ∀ v, p.2.data ≠ .cell v := fun p hp => by
    obtain ⟨z1, z2, z3, z4, z5⟩ := I3.pin p (List.mem_append_left _ hp)
    exact ⟨z1, z2, by rw [cL]; exact Nat.ne_of_lt (Heap.lt_size z1), fun z => (List.mem_cons.mp (I3.stkSub p.1 z)).elim z3 z4, z5⟩
  have J4 : Inv (blkH X s3 H3 scope ce [it]) [] (wipe σ [i]) H3 s4 := repin I4 fun p hp => by
    obtain ⟨z1, z2, z3, z4, z5⟩ := pinB p hp
    exact ⟨by rw [← hs4]; exact pushCells_keeps _ _ _ _ (Heap.get?_push_of_some _ z1), z2, z3, z4, z5⟩
  have n3 : H3 it = none := (f3 it (by simp)).1.1
  have pne : ∀ p ∈ X.pn, p.1 ≠ it := fun p hp => fpo.2.2.2.2.2 p (List.mem_append_left _ hp)
  have stat : ∀ {σ' : St} {H' : Hp} {s' : Shared}, Inv (blkH X s3 H3 scope ce [it]) [] σ' H' s' → H' it = none → FpOk (blkH X s3 H3 scope ce [it]) [] H' it := fun {σ' H' s'} I' hn =>
    ⟨hn, (I'.ok.exf it (by simp)).1, I'.ok.exfs it (by simp), .inl (by simp), fun y c e => (I'.ok.exf it (by simp)).2 y c e, fun p hp => pne p (by simpa using hp)⟩
  have loop : codeAny (model X.prog X.w) X.A (.compLoop (.ListComp elt [⟨.Name x px, iter, ifs, 0⟩] scope pos) 0 (.ref it) (.ref D) ce) (compPost (model X.prog X.w) X.A X.xe none (EP X pins σ Q) (.ref D) s3.heap.objs.size) s4 := by
    refine compLoop_any (fun n s' => ∃ j H', Inv (blkH X s3 H3 scope ce [it]) [] (wipe σ [i]) H' s' ∧ s'.heap.IsListIter it a j ∧ H' it = none ∧ W j n H') ?_ m0 ⟨0, H3, J4, st4, n3, w0⟩
    rintro n s5 ⟨j, H5, I5, st5, n5, w5⟩
    have fp5 := stat I5 n5
    rcases turn j n H5 w5 with ⟨⟨xs, hq, hlen⟩, qq⟩ | ⟨⟨xs, y, hq, hy⟩, Nx, hNx, step⟩
    · obtain ⟨its5, rv5, p5, _⟩ := I5.list hq
      obtain ⟨x1, hot1⟩ := L2H.HotC.at (X := blkH X s3 H3 scope ce [it]) hot I5
      have hl5 := rv5.length
      refine listEnd_hot hot1 ?_ st5 p5.isList (by simp; omega) fun h' eb => ?_
      · obtain ⟨p, ⟨hh, _⟩, hp⟩ := hot
        have e1 : X.A.handled = some (.ref x1) := hot1.1
        rw [hh] at e1
        have e2 : p.1 = x1 := by simpa using e1
        rw [← e2]
        exact pne p hp
      · have I6 : Inv (blkH X s3 H3 scope ce [it]) [] (wipe σ [i]) H5 { s5 with heap := h' } := I5.turned (t' := s5.toks) (fun b o hb e => eb b o hb e) fp5.1 fp5.2.1 fp5.2.2.2.1 fp5.2.2.2.2.1 fp5.2.2.2.2.2
        have I7 : Inv X pins σ H5 { s5 with heap := h' } := I3.call' (ch := [it]) I6.os I6.base I6.hok I6.bare fun b hb => by
          have eb : b = it := by simpa using hb
          subst eb
          exact ⟨fpo.2.2.2.1, fpo.2.1, fpo.2.2.2.2.1, fpo.2.2.2.2.2⟩
        have nC : H5 s3.heap.objs.size = none := by
          have z : H5 ce.locals = none := I6.free
          rw [cL] at z; exact z
        obtain ⟨m, hn, _⟩ := I6.loc
        have hn : ({ s5 with heap := h' } : Shared).heap.Ns ce.locals m := hn
        rw [cL] at hn
        obtain ⟨g0, g1, g2, g3, g4, g5⟩ := I3.fpOk (H' := H5) (Nat.le_refl _) nC
        exact ⟨m, hn, fun h'' sb => ⟨.ref D, H5, I7.turned (t' := s5.toks) (fun b o hb e => (sb.2 b hb).trans e) g0 g1 g3 g4 g5, rfl, qq⟩⟩
    · obtain ⟨its5, rv5, p5, _⟩ := I5.list hq
      obtain ⟨u, hu, ru⟩ := rv5.get hy
      refine wpAny_pyNext_list_item st5 p5.isList (x := u) (by simpa using hu) fun h' st' sb => ?_
      have I6 : Inv (blkH X s3 H3 scope ce [it]) [] (wipe σ [i]) H5 { s5 with heap := h' } := I5.turned (t' := s5.toks) (fun b o hb e => (sb.2 b hb).trans e) fp5.1 fp5.2.1 fp5.2.2.2.1 fp5.2.2.2.2.1 fp5.2.2.2.2.2
      obtain ⟨oi, ei, ci, di⟩ := id st'
      refine go_of (s := { s5 with heap := h' }) ei ci di (by decide) ?_
      have I7 := I6.pinned (fp := [it]) (fun b hb => by rw [show b = it by simpa using hb]; exact stat I6 n5) (fun b hb => by rw [show b = it by simpa using hb]; exact ⟨oi, ei, fun v z => by rw [di] at z; cases z⟩)
      refine thnF (pg.run _ _ _ H5 y u _ I7 ru (step y H5 ⟨rfl, fun ys hys => by rw [I5.list_inj hys hq]; exact hy⟩)) fun _ s8 ⟨σ8, H8, I8, hw8, q8⟩ => ?_
      refine thnF (pt.run _ s8 σ8 H8 _ I8 q8) fun c s9 ⟨H9, I9, q9⟩ => ?_
      have turned : ∀ {s' : Shared} {H' : Hp}, Inv (blkH X s3 H3 scope ce [it]) ([] ++ pinsAt [it] h') σ8 H' s' → Nx H' → ∃ m, m < n ∧ ∃ j H', Inv (blkH X s3 H3 scope ce [it]) [] (wipe σ [i]) H' s' ∧ s'.heap.IsListIter it a j ∧ H' it = none ∧ W j m H' := fun {s' H'} I' nx => by
        obtain ⟨m', hm, w'⟩ := hNx _ nx
        have hpin := I'.pin (it, oi) (List.mem_append_right _ (List.mem_append_right _ (mem_pinsAt (by simp) ei)))
        have hl : (wipe σ [i]).length = σ8.length := by rw [← hw8, wipe_length]
        refine ⟨m', hm, j + 1, H', (I'.unpinned (pins := [])).weak hl (fun k v e => ?_), st'.at fun o e => ?_, hpin.2.1, w'⟩
        · rw [← hw8] at e
          exact (wipe_some e).1
        · rw [show o = oi from Option.some.inj (e.symm.trans ei)]
          exact hpin.1
      cases c with
      | false =>
        rw [if_neg Bool.false_ne_true] at q9 ⊢
        exact turned I9 q9
      | true =>
        rw [if_pos rfl] at q9 ⊢
        refine thnF (pe.run _ s9 σ8 H9 _ I9 q9) fun z s10 ⟨yv, H10, I10, r10, acc, hD10, hz10, nx⟩ => ?_
        exact app_ok (X := blkH X s3 H3 scope ce [it]) I10 hD10 hz10 r10 fun s11 I11 => turned I11 nx
  exact codeAny_compStart_list loop (wpAny_pyIter_listiter st4 loop)
/-- .. by data -/
theorem de_lcH {G : Gx} {elt iter : Expr} {scope : Scope} {pos px : Pos} {x : Str} {wl we : DT Sl} (i : Nat) (hot : L2H.HotC X) (hN : X.N.Nodup) (hK : G.K = X.K) (hl : DE G X iter wl) (ok : BlkOk X.N X.env.scope scope [(x, i)])
    (hg : ∀ (s : Shared) (H : Hp) (C : Addr) (cl : List (Str × Addr)) (fp : List Addr), PG (blkH X s H scope (compEnvC scope cl C X.env) fp) (.Name x px) (gName i))
    (he : ∀ (s : Shared) (H : Hp) (C : Addr) (cl : List (Str × Addr)) (fp : List Addr), DE (Gn G) (blkH X s H scope (compEnvC scope cl C X.env) fp) elt we)
    (hs : ∀ x, foldedSetIterable iter X.env x = pure x := by intro _; rfl) : DE G X (.ListComp elt [⟨.Name x px, iter, [], 0⟩] scope pos) (wLc i (wItemsL wl) wTrue we) := by
  have me := (he s0 (fun _ => none) 0 [] []).mono
  have mi := wItemsL_mono hl.mono
  refine ⟨fun ρ Q Q' E E' hq he2 h => mi (fun items ρ1 ⟨x, k1, k2, k3⟩ => ⟨x, k1, k2, lcD_mono wTrue_mono me (fun acc ρ2 k p => hq _ _ (k p)) _ _ _ k3⟩) he2 h,
    pe_weak (pe_lcH hot hN hl.pe ok hg (fun _ _ _ _ _ => pts_true) (fun s H C cl fp => (he s H C cl fp).pe) hs) fun σ H Q h => lc_data (x := x) i mi (fun σ H R q => ?_) wTrue_mono me h⟩
  obtain ⟨ρ, τ, hA, hw⟩ := q
  refine ⟨ρ, τ, hA, hl.mono (fun x ρ1 k nx l1 v H1 A1 => ?_) (fun _ _ k => k) hw⟩
  obtain ⟨B, h1, h2⟩ := A1.still nx
  split at k
  · rename_i ds e
    rw [e] at h1
    cases h1 with
    | @lst a vs _ hs hv =>
      exact ⟨a, rfl, ⟨_, .inl (.inl (h2.hi _ _ hs))⟩, hK ▸ k l1 _ _ H1 (At.addSh A1.len h2 (.lst hs hv)) srv_list⟩
  · exact k.elim
end
/-- the check of a block's names -/
def blkB (N : List Str) (sc scope : Scope) (own : List (Str × Nat)) : Bool :=
  (match scope.kind with | .function => true | _ => false) && (scope.names.all (fun y => match scope.names.lookup y.1 with | some k => k == y.2 | none => false) && (own.all (fun p => match N[p.2]? with | some z => z == p.1 | none => false) &&
  (scope.names.all (fun y => !(y.2 == .free) || (match sc.names.lookup y.1 with | some k => k == .cell || k == .free | none => false)) &&
  scope.names.all (fun y => !(y.2 == .local || y.2 == .cell) || ((own.map (·.1)).contains y.1 || !N.contains y.1)))))
theorem blkOk_of {N : List Str} {sc scope : Scope} {own : List (Str × Nat)} (h : blkB N sc scope own = true) : BlkOk N sc scope own := by
  unfold blkB at h
  simp only [Bool.and_eq_true, List.all_eq_true] at h
  obtain ⟨h1, h2, h3, h4, h5⟩ := h
  refine ⟨?_, fun y hy => ?_, fun p hp => ?_, fun y hy e => ?_, fun y hy e => ?_⟩
  · split at h1
    · assumption
    · cases h1
  · have := h2 y hy
    split at this
    · rename_i k e
      rw [e, eq_of_beq this]
    · cases this
  · have := h3 p hp
    split at this
    · rename_i k e
      rw [e, eq_of_beq this]
    · cases this
  · have := h4 y hy
    rw [e] at this
    simp only [beq_self_eq_true, Bool.not_true, Bool.false_or] at this
    split at this
    · rename_i k q
      rw [Bool.or_eq_true] at this
      rcases this with z | z
      · exact .inl (by rw [q, eq_of_beq z])
      · exact .inr (by rw [q, eq_of_beq z])
    · cases this
  · have := h5 y hy
    have e2 : (y.2 == NameKind.local || y.2 == NameKind.cell) = true := by rcases e with e | e <;> rw [e] <;> rfl
    rw [e2, Bool.not_true, Bool.false_or, Bool.or_eq_true] at this
    rcases this with z | z
    · exact .inl (by simpa using z)
    · exact .inr (by simpa using z)
section
variable {P : Program} {w : World} {K : PySem.W.Frag} {mg : Str → Option Value} {base : Heap} {x qual : Str} {params : Arguments} {body : List Stmt} {scope : Scope} {f : Addr} {fd : FuncData}
/-- a promise that asks for what is never so -/
theorem fdp_never {ps : List Str} {k : Nat} {p : Addr × Obj} {W : DW1} (hW : ∀ ds Q E, ¬ W ds Q E) (F : FunD K x qual params body scope [] [] f fd) (hm : mg x = some (.ref f))
    (hbd : ∀ (kV doc pm : Value) (an : Option Addr) (cdv ct : Value) (us : List Value), us.length = ps.length → bindArgs (PySem.W.fnOf x qual params body scope .none kV doc pm an cdv ct) ⟨us, []⟩ = pure (ps.zip us)) : FDP P w K mg base k x ps.length p W :=
  ⟨fun _ _ _ _ _ _ _ h => (hW _ _ _ h).elim, f, fd, ps, rfl, hm, F.kp, ⟨fun vs H Q E ⟨so, B, ds, ln, _, _, hv, h⟩ => (hW _ _ _ h).elim, fun A outer s H args us vs Q E _ _ _ _ _ _ ⟨so, B, ds, ln, _, _, hv, h⟩ => (hW _ _ _ h).elim⟩, F.bindsN hbd⟩
end
end DL
set_option Elab.async false
set_option maxRecDepth 100000
set_option maxHeartbeats 4000000
set_option linter.unusedVariables false
/-! data-level layer, part z: errors with no value; an error that keeps a copy of a list; x.split(sep) -/
namespace DL
open PySem PySem.Spec PyProof.Rows L2 NdefX He

/-! ### errors with no value -/
section
variable {X : Cx} {p pos pos' : Pos} {c : Str}
/-- C(), an own class without an __init__ -/
theorem pmk_own0 {C : Addr} {bmB : List Value} {B newId initId : String} (F : ExcBaseFacts B newId initId bmB) (q : PySem.W.excIn X.K C bmB newId = true) (gC : X.mg c = some (.ref C)) (kC : PySem.W.keepIn X.K (.ref C) = true) (r : Raises X (.ref C)) (hg : Gl X c)
    (hdb : (c == ("__debug__" : Str)) = false := by decide) : L2N.PMk X (.Call (.Name c p) [] [] pos) (fun _ H Q => Q (.ref C) none H) := by
  intro pins s σ H Q I h
  refine wpAny_Call_Name_kw (ld_glob I hg gC ?_ hdb)
  refine PySem.W.callWith_K0 I.kIn kC ?_
  show wpAny _ _ (call (.ref C) []) _ _ _
  obtain ⟨bm, N, nm, qn, bs, hdct, sn, sub, ab, col, dd, k0, k1, k2, k3, k5, mN, hC, hN, hni, T⟩ := exc_obj I.kIn q
  exact wpAny_call_exc_subT F T hC hN hni (fun h' e hm => L2N.mk_of I hm r h (I.hok.gone hm.new)) (Nat.zero_le _)
end
abbrev veB : List Value := [.type "ValueError", .type "Exception", .type "BaseException", .type "object"]
/-- such a class -/
structure ErN (K : PySem.W.Frag) (mg : Str → Option Value) (c : Str) : Prop where
  hm : mg c = some (.ref (He.ga K c))
  kp : PySem.W.keepIn K (.ref (He.ga K c)) = true
  ex : PySem.W.excIn K (He.ga K c) veB "ValueError.__new__" = true
  sb : PySem.W.subIn K (.ref (He.ga K c)) (.type "BaseException") = some true
  ty : PySem.W.typeIn K (.ref (He.ga K c)) = some (.type "type")
def ernB (K : PySem.W.Frag) (c : Str) : Bool := PySem.W.excIn K (He.ga K c) veB "ValueError.__new__" && (decide (PySem.W.subIn K (.ref (He.ga K c)) (.type "BaseException") = some true) && eqOV (PySem.W.typeIn K (.ref (He.ga K c))) (some (.type "type")))
theorem ern_of {K : PySem.W.Frag} {mg : Str → Option Value} {c : Str} (hm : mg c = some (.ref (He.ga K c))) (he : errB K c = true) (h : ernB K c = true) : ErN K mg c := by
  unfold ernB at h
  simp only [Bool.and_eq_true] at h
  exact ⟨hm, (errB_ok he).2.1, h.1, of_decide_eq_true h.2.1, eqOV_ok h.2.2⟩
def wRaise0 (c : Str) : DS := fun _ ρ E => E ⟨c, none⟩ ρ
section
variable {G : Gx} {X : Cx} {p pos pos' : Pos} {c : Str}
theorem ds_raise0 (T : ErN X.K X.mg c) (hc : X.calm = true) (hK : G.K = X.K) (tk : L2N.Takes X fun cls d σ H => G.EX σ cls d H) (hg : Gl X c := by rfl) (hdb : (c == ("__debug__" : Str)) = false := by decide) :
    DSt G X (.Raise (some (.Call (.Name c p) [] [] pos)) none pos') (wRaise0 c) := by
  refine ⟨fun ρ N N' E E' h _ hE => hE _ _ h, ps_weak (L2N.ps_raise hc tk (pmk_own0 PySem.F.excBase_ValueError T.ex T.hm T.kp (raises_own T.sb T.ty) hg hdb)) fun D σ H h => ?_⟩
  obtain ⟨ρ, τ, hA, hw⟩ := h
  obtain ⟨B, hr⟩ := hA.rel
  exact hw σ _ none H B hA.len hr ⟨by rw [hK], rfl⟩
end

/-! ### an error that keeps a copy of a list -/
/-- the promise of its __init__ -/
def spInitL (C : Addr) (f : Str) : Sp := fun vs H Q _ => ∃ a q ys, vs = [.ref a, .ref q] ∧ H a = some (exo a C none) ∧ H q = some (.lst ys) ∧
  ∀ r, H r = none → ∀ dx, upd H r (.lst ys) dx = none → dx ≠ a → Q .non (upd (upd (upd H r (.lst ys)) dx (exd dx [(f, .ref r)])) a (exo a C (some dx)))
section
variable {P : Program} {w : World} {K : PySem.W.Frag} {mg : Str → Option Value} {base : Heap} {C fI : Addr} {F : NF} {doc pm ctv : Value} {CX : CXT}
theorem init_okL {y f : Str} {e : Expr} {te : TE} {p0 p1 p2 p3 p4 a1 a2 a3 a4 l1 l2 : Pos} (S : SupC P K C fI F doc pm ctv) (ms : mg "super" = none) (ml : mg "list" = none) (Sc : NScope [("self" : Str), y, "__class__"] [("self" : Str), y] ["__class__"] F.scope)
    (hbd : F.body = [.Expr (.Call (.Attribute (.Call (.Name "super" p0) [] [] p1) "__init__" p2) [e] [] p3) p4, .Assign [.Attribute (.Name "self" a1) f a2] (.Call (.Name "list" l1) [.Name y a3] [] l2) a4])
    (hpe : ∀ X : Cx, X.N = [("self" : Str), y, "__class__"] → X.env.scope = F.scope → PE X e te) (hrd : ∀ (σ : L2.St) (H : Hp) (Q : VK), (∀ out, Q (.str out) H) → te σ H Q) (hno : PySem.W.findIn K (.ref C) f = some none)
    {ar : Arg} (har : (F.params.posonlyargs ++ F.params.args).head? = some ar) (harn : ar.arg = "self") (hks : F.scope.names.lookup ("super" : Str) = some .globalImplicit) (hkl : F.scope.names.lookup ("list" : Str) = some .globalImplicit)
    (hst : ∀ env : Env, starEach [e] env = (false, eval e env) :: starEach [] env) (hst2 : ∀ env : Env, starEach [.Name y a3] env = (false, eval (.Name y a3) env) :: starEach [] env)
    (hev : ∀ env : Env, eval (.Call (.Attribute (.Call (.Name "super" p0) [] [] p1) "__init__" p2) [e] [] p3) env = (do
      let ov ← attributeBase (.Call (.Name "super" p0) [] [] p1) "__init__" env (eval (.Call (.Name "super" p0) [] [] p1) env)
      standAt p2.atName
      let (f, first) ← holding [ov] (getMethod ov "__init__" (pure false))
      callWith p3 f first (backTo p3 (starEach [e] env)) []))
    (hyd : (y == ("__debug__" : Str)) = false) (hyc : (y == ("__classdict__" : Str)) = false) :
    FnOk P w K mg base CX 1 fI (F.fd doc pm ctv) [("self" : Str), y] (spInitL C f) := by
  have ls : F.scope.names.lookup ("self" : Str) = some .local := Sc.par _ (by simp)
  have ly : F.scope.names.lookup y = some .local := Sc.par _ (by simp)
  have lc : F.scope.names.lookup ("__class__" : Str) = some .free := Sc.frk _ (by simp)
  refine sup_ok (p5 := p4) S ms Sc hbd har (by rw [harn]; rfl) hks lc (by rw [harn]; exact ls) (fun vs H Q E h => ?_) hst (fun env => rfl) hev (fun A outer s H vs Q E hr h => ?_)
  · obtain ⟨a, q, ys, rfl, _⟩ := h; rfl
  · obtain ⟨a, q, ys, rfl, ha, hq, k⟩ := h
    refine ⟨te, _, a, hpe _ rfl rfl, pss_one (ps_ost (pe_var (i := 0) rfl (.inl ls)) (pe_callTy call_list_of hkl ml (by decide +kernel) (pa_cons (pe_var (i := 1) rfl (.inl ly) hyd hyc) pa_nil (hst2 _)) (he := hst2 _)) rfl), rfl, ha, hrd _ _ _ fun out => ⟨ha, ?_⟩⟩
    refine ⟨.ref q, rfl, q, ys, rfl, .inl (.inl (.inl hq)), fun r hr0 => ⟨.ref a, rfl, a, C, rfl, S.ox, hno, .inl ⟨?_, fun dx h1 h2 => k r hr0 dx h1 h2⟩⟩⟩
    rw [upd_ne (fun z => by rw [z, hr0] at ha; cases ha)]
    exact ha
end
structure ErL (P : Program) (w : World) (K : PySem.W.Frag) (mg : Str → Option Value) (base : Heap) (c : Str) : Prop where
  hm : mg c = some (.ref (He.ga K c))
  ox : OexC K (He.ga K c)
  ini : ∃ fI fd ps, PySem.W.findIn K (.ref (He.ga K c)) "__init__" = some (some (.ref fI)) ∧ PySem.W.typeIn K (.ref fI) = some (.type "function") ∧ FnOk P w K mg base (L2N.CX P w) 1 fI fd ps (spInitL (He.ga K c) (fieldOf c)) ∧ Binds K fd ps []
/-- raise c(x), x a list of one's own: it stays one's own -/
def wRaiseL (c : Str) (i : Nat) : DS := fun _ ρ E => match ρ[i]? with
  | some (.ow _ ds) => E ⟨c, some (.lst ds)⟩ ρ
  | _ => False
section
variable {G : Gx} {X : Cx} {p pos pos' px : Pos} {c x : Str}
theorem ds_raiseL (i : Nat) (T : ErL X.prog X.w X.K X.mg X.base c) (hc : X.calm = true) (hr : Room 2 X.A) (hK : G.K = X.K) (tk : L2N.Takes X fun cls d σ H => G.EX σ cls d H) (hN : X.N[i]? = some x := by rfl)
    (hv : Vis X.env.scope x := by first | exact Or.inl rfl | exact Or.inr (Or.inl rfl) | exact Or.inr (Or.inr rfl)) (hd : (x == ("__debug__" : Str)) = false := by decide) (hcd : (x == ("__classdict__" : Str)) = false := by decide) (hg : Gl X c := by rfl)
    (hdb : (c == ("__debug__" : Str)) = false := by decide) (hst : starEach [.Name x px] X.env = (false, eval (.Name x px) X.env) :: starEach [] X.env := by rfl) :
    DSt G X (.Raise (some (.Call (.Name c p) [.Name x px] [] pos)) none pos') (wRaiseL c i) := by
  obtain ⟨fI, fd, ps, h1, h2, h3, h4⟩ := T.ini
  refine ⟨fun ρ N N' E E' h _ hE => ?_, ps_weak (L2N.ps_raise hc tk (pmk_oexN (CX := L2N.CX X.prog X.w) T.ox h1 h2 h3 hr h4 (L2N.passes_call tk fun _ _ _ _ z => z.elim) hg T.hm (pa_cons (pe_var hN hv hd hcd) pa_nil hst) hdb hst rfl)) fun D σ H h => ?_⟩
  · unfold wRaiseL at h ⊢
    split at h
    · exact hE _ _ h
    · exact h.elim
  obtain ⟨ρ, τ, hA, hw⟩ := h
  unfold wRaiseL at hw
  split at hw
  · rename_i q ds eq
    obtain ⟨e1, B, vs, hR, hq, hv⟩ := hA.own eq
    refine ⟨.ref q, e1, by show 1 ≤ 1000; decide, fun a ha => ?_⟩
    have neq : q ≠ a := fun z => by rw [z, ha] at hq; cases hq
    refine ⟨a, q, vs, rfl, upd_same, by rw [upd_ne neq]; exact hq, fun r hr0 dx hdx hda => ?_⟩
    have hra : r ≠ a := fun z => by rw [z, upd_same] at hr0; cases hr0
    have hr1 : H r = none := by rw [upd_ne hra] at hr0; exact hr0
    have hxr : dx ≠ r := fun z => by rw [z, upd_same] at hdx; cases hdx
    have hdx1 : H dx = none := by rw [upd_ne hxr, upd_ne hda] at hdx; exact hdx
    refine ⟨rfl, dx, [(fieldOf c, .ref r)], upd_same, by rw [upd_ne hda, upd_same], hdx1, ?_⟩
    have e2 : upd (del (upd (upd (upd (upd H a (exo a (He.ga X.K c) none)) r (.lst vs)) dx (exd dx [(fieldOf c, .ref r)])) a (exo a (He.ga X.K c) (some dx))) a) dx (.xd [(fieldOf c, .ref r)]) = upd (upd H r (.lst vs)) dx (.xd [(fieldOf c, .ref r)]) := by
      funext b
      by_cases hb : b = dx
      · rw [hb, upd_same, upd_same]
      · rw [upd_ne hb, upd_ne hb]
        by_cases hba : b = a
        · rw [hba, del_same, upd_ne hra.symm, ha]
        · rw [del_ne hba, upd_ne hba, upd_ne hb]
          by_cases hbr : b = r
          · rw [hbr, upd_same, upd_same]
          · rw [upd_ne hbr, upd_ne hbr, upd_ne hba]
    rw [e2]
    have R1 := hR.newB (o := .lst vs) hr1
    have R2 := R1.newB (p := dx) (o := .xd [(fieldOf c, .ref r)]) (by rw [upd_ne hxr]; exact hdx1)
    have s1 := same_upd (o := .lst vs) (hR.free hr1)
    have s2 := same_upd (o := .xd [(fieldOf c, .ref r)]) (R1.free (by rw [upd_ne hxr]; exact hdx1))
    exact hw σ _ (some dx) _ _ hA.len R2 ⟨by rw [hK], dx, .ref r, rfl, upd_same, .lst (s2 _ _ upd_same) ((hv.mono s1).mono s2)⟩
  · exact hw.elim
end
section
variable {P : Program} {w : World} {K : PySem.W.Frag} {mg : Str → Option Value} {base : Heap}
theorem erl_of {c nm qual y : Str} {params : Arguments} {body : List Stmt} {scope : Scope} {p0 p1 p2 p3 p4 a1 a2 a3 a4 l1 l2 : Pos} (hi : iniB K P.main.file c = true) (hv : fnV K (c, some "__init__") = (some (nm, qual, params, FuncBody.stmts body, scope, mainGlobals, ["__class__"], builtinsNs) : FnV))
    (hany : eqO (PySem.W.nsIn K cStatics "thirdparty.any") (some none) = true) (htop : (P.main.scope.names.lookup ("super" : Str)).isSome = false) (hmg : mg c = some (.ref (He.ga K c))) (ms : mg "super" = none) (ml : mg "list" = none)
    (Sc : NScope [("self" : Str), y, "__class__"] [("self" : Str), y] ["__class__"] scope) {e : Expr} {te : TE}
    (hbd : body = [.Expr (.Call (.Attribute (.Call (.Name "super" p0) [] [] p1) "__init__" p2) [e] [] p3) p4, .Assign [.Attribute (.Name "self" a1) (fieldOf c) a2] (.Call (.Name "list" l1) [.Name y a3] [] l2) a4])
    (hpe : ∀ X : Cx, PE X e te) (hrd : ∀ (σ : L2.St) (H : Hp) (Q : VK), (∀ out, Q (.str out) H) → te σ H Q)
    {ar : Arg} (har : (params.posonlyargs ++ params.args).head? = some ar) (harn : ar.arg = "self") (hks : scope.names.lookup ("super" : Str) = some .globalImplicit) (hkl : scope.names.lookup ("list" : Str) = some .globalImplicit)
    (hst : ∀ env : Env, starEach [e] env = (false, eval e env) :: starEach [] env) (hst2 : ∀ env : Env, starEach [.Name y a3] env = (false, eval (.Name y a3) env) :: starEach [] env)
    (hl : (p2.endLine == p3.line) = true)
    (hyd : (y == ("__debug__" : Str)) = false) (hyc : (y == ("__classdict__" : Str)) = false)
    (hbind : ∀ (n q : Str) (b : List Stmt) (sc : Scope) (cl : List (Str × Addr)) (cc : Addr) (doc pm ctv : Value) (us : List Value), us.length = 2 → bindArgs ((⟨n, q, params, b, sc, cl, cc⟩ : NF).fd doc pm ctv) ⟨us, []⟩ = pure ([("self" : Str), y].zip us)) :
    ErL P w K mg base c ∧ XfK K c := by
  obtain ⟨F, doc, pm, ctv, f1, f2, f3, f4, S, h1, h2, h3⟩ := supC_of (P := P) hi hv hany htop
  refine ⟨⟨hmg, S.ox, He.ma K (He.ga K c) "__init__", F.fd doc pm ctv, [("self" : Str), y], h1, h2, init_okL (e := e) (te := te) S ms ml (f4 ▸ Sc) (f3.trans hbd) (fun X _ _ => hpe X) hrd h3.2 (by rw [f2]; exact har) harn (by rw [f4]; exact hks) (by rw [f4]; exact hkl) hst hst2 (fun env => ?_) hyd hyc, .all fun us hl => ?_⟩, h3⟩
  · show (attributeBase (.Call (.Name "super" p0) [] [] p1) "__init__" env (eval (.Call (.Name "super" p0) [] [] p1) env) >>= fun ov => standAt p2.atName >>= fun _ => methodCall (.Call (.Name "super" p0) [] [] p1) "__init__" p2 p3 env ov 1 (backTo p3 (starEach [e] env)) []) = _
    congr 1
    funext ov
    congr 1
    funext _
    exact mcall_line (by rw [hst env]; rfl) hl
  · obtain ⟨n, q, pr, b, sc, cl, cc⟩ := F
    cases f2
    exact hbind n q b sc cl cc doc pm ctv us hl
end

/-! ### x.split("..") -/
def wSplit (b : Str) (wa : DT Sl) : DT Sl := fun ρ Q E => wa ρ (fun x ρ1 => match x.dat with
  | .str a => (b.length == 0) = false ∧ a.length + 2 ≤ sizeLine ∧ ∀ p, Q (.ow p ((Txt.split a b).map D.str)) ρ1
  | _ => False) E
section
variable {G : Gx} {X : Cx} {a : Expr} {wa : DT Sl} {pos apos q : Pos} {b : Str} {j : Option Str}
theorem de_split {j : Nat} (ho : DE G X a wa) (hs : starEach [.Constant (.str b) j q] X.env = [(false, eval (.Constant (.str b) j q) X.env)] := by rfl) (hbase : attributeBase a "split" X.env (eval a X.env) = eval a X.env := by rfl) (hline : (apos.endLine == pos.line) = true := by rfl) :
    DE G X (.Call (.Attribute a "split" apos) [.Constant (.str b) j q] [] pos) (wSplit b wa) := by
  refine ⟨fun _ _ _ _ _ hq he h => ho.mono (fun x ρ1 k => ?_) he h, pe_weak (pe_split ho.pe pe_str hs hbase hline) fun σ H Q h => ?_⟩
  · split at k
    · exact ⟨k.1, k.2.1, fun p => hq _ _ (k.2.2 p)⟩
    · exact k.elim
  obtain ⟨ρ, τ, hA, hw⟩ := h
  refine ⟨ρ, τ, hA, ho.mono (fun x ρ1 k nx l v H1 A1 => ?_) (fun _ _ e => e) hw⟩
  obtain ⟨B, h1, h2⟩ := A1.still nx
  split at k
  · rename_i z e
    rw [e] at h1
    cases h1
    refine ⟨⟨z, rfl⟩, z, b, rfl, rfl, k.1, k.2.1, fun p hp => k.2.2 p (fun z => by cases z) l _ _ (At.addOw A1.len h2 hp ?_)⟩
    have all : ∀ l : List Str, Rps G.K G.so B (l.map V.str) (l.map D.str) := fun l => by
      induction l with
      | nil => exact .nil
      | cons y l ih => exact .cons (.str y) ih
    exact all _
  · exact k.elim
end
end DL
set_option Elab.async false
set_option maxRecDepth 100000
set_option maxHeartbeats 4000000
set_option linter.unusedVariables false
/-! data-level layer, strings: str(int), int(str), join, f-strings, slices, one sign in a text, the signs in turn; x += e; constants that are texts -/
namespace DL
open PySem PySem.Spec PyProof.Rows L2 NdefX
/-- the written part says that the limit of digits stands as the start leaves it -/
structure NdK (K : PySem.W.Frag) : Prop where
  ok : PySem.W.nsOkIn K cStatics = true
  nd : PySem.W.nsIn K cStatics "sys.int_max_str_digits" = some none
def ndB (K : PySem.W.Frag) : Bool := PySem.W.nsOkIn K cStatics && He.eqO (PySem.W.nsIn K cStatics "sys.int_max_str_digits") (some none)
theorem ndK_of {K : PySem.W.Frag} (h : ndB K = true) : NdK K := by
  unfold ndB at h
  rw [Bool.and_eq_true] at h
  exact ⟨h.1, He.eqO_ok h.2⟩
theorem NdK.noD {K : PySem.W.Frag} (N : NdK K) {h : Heap} (X : K.In h) : h.NoDigits := ⟨h.nsMap cStatics, .of_isNs (PySem.W.isNs_of_in X N.ok), PySem.W.nsMap_none_of_in X N.ok N.nd⟩
/-- an int whose text is not too long -/
def WdI (i : Int) : Prop := i.natAbs < 2 ^ 14000
theorem wd_lt {i : Int} (h : WdI i) : i.natAbs < 10 ^ 4300 := Nat.lt_of_lt_of_le h (by decide +kernel)
/-- an int's text -/
def intS (i : Int) : Str := Str.ofString (toString i)
def pStr : List D → Prop | [.int i] => WdI i | _ => False
def fStr : List D → D | [.int i] => .str (intS i) | _ => .non
abbrev wStr := wFun (roF pStr fStr)
def pIntS : List D → Prop | [.str a] => (∃ n, intText? a = some n) ∧ a.length ≤ 640 | _ => False
def fIntS : List D → D | [.str a] => .int ((intText? a).getD 0) | _ => .non
abbrev wIntS := wFun (roF pIntS fIntS)
section
variable {G : Gx} {X : Cx} {a b e : Expr} {wr : DT (List Sl)} {wa wb we : DT Sl} {p pos apos q : Pos}
theorem call_strW (hc : X.calm = true) (N : NdK X.K) : CallR X (.type "str") (fun xs H Q => ∃ i, xs = [.int i] ∧ WdI i ∧ Q (.str (toString i)) H) := by
  intro pins s σ H xs us Q I r h
  obtain ⟨i, rfl, hz, q⟩ := h
  obtain ⟨u, rfl, t, rfl⟩ := vals1 r
  exact PyProof.Rows.str_of_int_or (I.ok.hd hc) (N.noD I.kIn) (fun _ => ⟨.str _, H, I.tok _, ⟨_, rfl⟩, q⟩) fun z => absurd (wd_lt hz) (Nat.not_lt.mpr z)
theorem opa_str : OpA G (fun xs H Q => ∃ i, xs = [.int i] ∧ WdI i ∧ Q (.str (toString i)) H) (roF pStr fStr) := opa_F fun so vs ds H B Q e hv hp k => by
  unfold pStr at hp
  split at hp
  · match vs, hv with
    | [_], .cons (.int i) .nil => exact ⟨i, rfl, hp, k _ (.str _)⟩
  · exact hp.elim
theorem de_strI (hc : X.calm = true) (N : NdK X.K) (hm : X.mg "str" = none) (ha : DA G X [a] wr) (hg : Gl X "str" := by rfl) (he : starEach [a] X.env = (false, eval a X.env) :: starEach [] X.env := by rfl) : DE G X (.Call (.Name "str" p) [a] [] pos) (wStr wr) := de_callT (call_strW hc N) opa_str roF_mono hg hm (by decide +kernel) ha (he := he)
theorem opa_intS : OpA G (fun xs H Q => ∃ a n, xs = [.str a] ∧ PySem.intText? a = some n ∧ a.length ≤ 640 ∧ Q (.int n) H) (roF pIntS fIntS) := opa_F fun so vs ds H B Q e hv hp k => by
  unfold pIntS at hp
  split at hp
  · rename_i a
    obtain ⟨⟨n, e1⟩, e2⟩ := hp
    match vs, hv with
    | [_], .cons (.str _) .nil =>
      refine ⟨a, n, rfl, e1, e2, k _ ?_⟩
      show Rp G.K so B (.int n) (.int ((intText? a).getD 0))
      rw [e1]; exact .int n
  · exact hp.elim
theorem de_intS (hm : X.mg "int" = none) (ha : DA G X [a] wr) (hg : Gl X "int" := by rfl) (he : starEach [a] X.env = (false, eval a X.env) :: starEach [] X.env := by rfl) : DE G X (.Call (.Name "int" p) [a] [] pos) (wIntS wr) := de_callT call_int_str opa_intS roF_mono hg hm (by decide +kernel) ha (he := he)

/-! ### sep.join(xs) -/
def wJoin (z : Str) (wa : DT Sl) : DT Sl := fun ρ Q E => wa ρ (fun x ρ1 => match x.dat with
  | .lst ds => ∃ ys : List Str, ds = ys.map D.str ∧ (ys.map (·.length)).sum + ys.length * z.length ≤ 16777216 ∧ Q (.sh (.str (Txt.join z ys))) ρ1
  | _ => False) E
theorem strs_of {K : PySem.W.Frag} {so : Option Addr} {B : Hp} : ∀ {vs : List V} {ys : List Str}, Rps K so B vs (ys.map D.str) → vs = ys.map V.str
  | _, [], h => by cases h; rfl
  | _, y :: ys, h => by
    cases h with
    | cons h1 h2 => cases h1; rw [strs_of h2]; rfl
theorem de_join {z : Str} {j : Nat} (hK : G.K = X.K) (he : DE G X e we) (hs : starEach [e] X.env = [(false, eval e X.env)] := by rfl)
    (hbase : attributeBase (.Constant (.str z) j q) "join" X.env (eval (.Constant (.str z) j q) X.env) = eval (.Constant (.str z) j q) X.env := by rfl) (hline : (apos.endLine == pos.line) = true := by rfl) :
    DE G X (.Call (.Attribute (.Constant (.str z) j q) "join" apos) [e] [] pos) (wJoin z we) := by
  refine ⟨fun _ _ _ _ _ hq he2 h => he.mono (fun x ρ1 k => ?_) he2 h, pe_weak (pe_join pe_str he.pe hs hbase hline) fun σ H Q h => ⟨⟨z, rfl⟩, ?_⟩⟩
  · split at k
    · obtain ⟨ys, k1, k2, k3⟩ := k; exact ⟨ys, k1, k2, hq _ _ k3⟩
    · exact k.elim
  obtain ⟨ρ, τ, hA, hw⟩ := h
  refine ⟨ρ, τ, hA, he.mono (fun x ρ1 k nx l v H1 A1 => ?_) (fun _ _ e => e) hw⟩
  obtain ⟨B, h1, h2⟩ := A1.still nx
  split at k
  · rename_i ds ed
    obtain ⟨ys, rfl, k2, k3⟩ := k
    rw [ed] at h1
    cases h1 with
    | @lst a vs _ g1 g2 =>
      have ev := strs_of g2
      subst ev
      exact ⟨z, a, ys, rfl, rfl, .inl (.inl (.inl (h2.hi _ _ g1))), k2, k3 (fun z => by cases z) l _ _ (At.addSh A1.len h2 (.str _))⟩
  · exact k.elim

/-! ### f"{a}..{b}" -/
def txtD : D → Option Str
  | .int i => some (intS i)
  | .str x => some x
  | _ => none
def okTxt : D → Prop
  | .int i => WdI i
  | .str x => x.length ≤ 100000
  | _ => False
def wFs (z : Str) (wa wb : DT Sl) : DT Sl := fun ρ Q E => wa ρ (fun x ρ1 => okTxt x.dat ∧ ∃ s, txtD x.dat = some s ∧ s.length + z.length ≤ sizeLine ∧
  wb ρ1 (fun y ρ2 => okTxt y.dat ∧ ∃ t, txtD y.dat = some t ∧ s.length + z.length + t.length ≤ sizeLine ∧ Q (.sh (.str (s ++ z ++ t))) ρ2) E) E
/-- {x}: a text or an int, as a text -/
def tFmtW (te : TE) : TE := fun σ H Q => te σ H fun x H1 => (∃ y : Str, x = .str y ∧ y.length ≤ sizeLine ∧ Q (.str y) H1) ∨ ∃ i : Int, x = .int i ∧ WdI i ∧ Q (.str (toString i)) H1
theorem pe_fmtW (hc : X.calm = true) (N : NdK X.K) {te : TE} (he : PE X e te) : PE X (.FormattedValue e (-1) none pos) (tFmtW te) := by
  refine ⟨fun pins s σ H Q I h => wpAny_FormattedValue_plain (thn (he.run pins s σ H _ I h) fun v s1 hv => ?_)⟩
  obtain ⟨x, H1, I1, r1, qq⟩ := hv
  rcases qq with ⟨y, rfl, hz, qq⟩ | ⟨i, rfl, hz, qq⟩
  · obtain ⟨t, rfl⟩ := r1
    exact wpAny_formatField_str ⟨.str y, H1, I1, ⟨t, rfl⟩, qq⟩ ⟨.str y, H1, I1.tok _, ⟨_, rfl⟩, qq⟩ hz
  · obtain ⟨t, rfl⟩ := r1
    exact PyProof.Rows.formatField_int (I1.ok.hd hc) (N.noD I1.kIn) (fun _ => ⟨.str (toString i), H1, I1.tok _, ⟨_, rfl⟩, qq⟩) fun z => absurd (wd_lt hz) (Nat.not_lt.mpr z)
theorem fmt_of {K : PySem.W.Frag} {so : Option Addr} {B : Hp} {v : V} {d : D} {Q : V → Prop} {s : Str} (h : Rp K so B v d) (k : okTxt d) (e : txtD d = some s) (q : Q (.str s)) : (∃ y : Str, v = .str y ∧ y.length ≤ sizeLine ∧ Q (.str y)) ∨ ∃ i : Int, v = .int i ∧ WdI i ∧ Q (.str (toString i)) := by
  cases d with
  | int i => cases h; cases e; exact .inr ⟨i, rfl, k, q⟩
  | str x =>
    cases h; cases e
    have k : s.length ≤ 100000 := k
    exact .inl ⟨s, rfl, by rw [sizeLine_eq]; omega, q⟩
  | _ => exact k.elim
theorem str_app_empty (s : Str) : Str.empty ++ s = s := by
  show (⟨#[] ++ s.cps⟩ : Str) = s
  simp
theorem de_fs {z : Str} {j : Nat} {p1 p2 p3 : Pos} (hc : X.calm = true) (N : NdK X.K) (ha : DE G X a wa) (hb : DE G X b wb) : DE G X (.JoinedStr [.FormattedValue a (-1) none p1, .Constant (.str z) j p2, .FormattedValue b (-1) none p3] pos) (wFs z wa wb) := by
  refine ⟨fun _ _ _ _ _ hq he h => ha.mono (fun x ρ1 k => ?_) he h, pe_weak (pe_joined (.cons (pe_fmtW hc N ha.pe) (.cons pe_str (.cons (pe_fmtW hc N hb.pe) .nil)))) fun σ H Q h => ?_⟩
  · obtain ⟨k1, s, k2, k3, k⟩ := k
    refine ⟨k1, s, k2, k3, hb.mono (fun y ρ2 k => ?_) he k⟩
    obtain ⟨k4, t, k5, k6, k7⟩ := k
    exact ⟨k4, t, k5, k6, hq _ _ k7⟩
  obtain ⟨ρ, τ, hA, hw⟩ := h
  refine ⟨ρ, τ, hA, ha.mono (fun x ρ1 k nx l v H1 A1 => ?_) (fun _ _ e => e) hw⟩
  obtain ⟨k1, s, k2, k3, k⟩ := k
  obtain ⟨B, h1, h2⟩ := A1.still nx
  refine fmt_of (Q := fun x => ∃ y : Str, x = .str y ∧ (Str.empty ++ y).length ≤ sizeLine ∧ tJs [tC (.str z), tFmtW (tD G wb)] (Str.empty ++ y) σ H1 (fun out H1 => Q (.str out) H1)) h1 k1 k2 ⟨s, rfl, by rw [str_app_empty]; omega, z, rfl, by rw [str_app_empty, str_len_app]; exact k3, ?_⟩
  rw [str_app_empty]
  refine ⟨ρ1, τ, .mk' A1.len h2, hb.mono (fun y ρ2 k nx2 l2 u H2 A2 => ?_) (fun _ _ e => e) k⟩
  obtain ⟨k4, t, k5, k6, k7⟩ := k
  obtain ⟨B2, h3, h4⟩ := A2.still nx2
  exact fmt_of (Q := fun x => ∃ y : Str, x = .str y ∧ ((s ++ z) ++ y).length ≤ sizeLine ∧ tJs [] ((s ++ z) ++ y) σ H2 (fun out H1 => Q (.str out) H1)) h3 k4 k5 ⟨t, rfl, by rw [str_len_app, str_len_app]; exact k6, k7 (fun z => by cases z) (l2.trans l) _ _ (At.addSh A2.len h4 (.str _))⟩

/-! ### a[:e], a[e:f] of a text -/
def wSlS1 (wa we : DT Sl) : DT Sl := fun ρ Q E => wa ρ (fun x ρ1 => we ρ1 (fun y ρ2 => match x.dat, y.dat with
  | .str z, .int i => z.length ≤ sizeLine ∧ Q (.sh (.str (cutS z none (some i)))) ρ2
  | _, _ => False) E) E
def wSlS2 (wa we wf : DT Sl) : DT Sl := fun ρ Q E => wa ρ (fun x ρ1 => we ρ1 (fun y ρ2 => match y.dat with
  | .int i => wf ρ2 (fun u ρ3 => match x.dat, u.dat with
    | .str z, .int j => z.length ≤ sizeLine ∧ Q (.sh (.str (cutS z (some i) (some j)))) ρ3
    | _, _ => False) E
  | _ => False) E) E
theorem de_slS1 {p2 : Pos} (ha : DE G X a wa) (he : DE G X e we) : DE G X (.Subscript a (.Slice none (some e) none p2) pos) (wSlS1 wa we) := by
  refine ⟨fun _ _ _ _ _ hq he2 h => ha.mono (fun x ρ1 k => he.mono (fun y ρ2 k => ?_) he2 k) he2 h, pe_weak (pe_slice sl_str ha.pe po_none (po_some he.pe)) fun σ H Q h => ?_⟩
  · split at k
    · exact ⟨k.1, hq _ _ k.2⟩
    · exact k.elim
  obtain ⟨ρ, τ, hA, hw⟩ := h
  refine ⟨ρ, τ, hA, ha.mono (fun x ρ1 k nx l v H1 A1 => ?_) (fun _ _ e => e) hw⟩
  obtain ⟨B, h2⟩ := A1.freezeLast nx
  have hx := h2.rep (some v, .sh x.dat) (by simp)
  refine ⟨ρ1, _, ⟨A1.len, B, h2⟩, he.mono (fun y ρ2 k2 ny l2 u H2 A2 => ?_) xw_app k⟩
  split at k2
  · rename_i z i ex ey
    rw [ex] at hx
    cases hx
    obtain ⟨B2, h3, h4⟩ := A2.still ny
    rw [ey] at h3
    cases h3
    refine ⟨i, rfl, z, rfl, k2.1, k2.2 (fun z => by cases z) (l2.trans l) _ _ (At.addSh A2.len (h4.sublist ?_) (.str _))⟩
    exact List.Sublist.append (List.Sublist.refl _) (List.sublist_append_left _ _)
  · exact k2.elim
theorem de_slS2 {f : Expr} {wf : DT Sl} {p2 : Pos} (ha : DE G X a wa) (he : DE G X e we) (hf : DE G X f wf) : DE G X (.Subscript a (.Slice (some e) (some f) none p2) pos) (wSlS2 wa we wf) := by
  refine ⟨fun _ _ _ _ _ hq he2 h => ha.mono (fun x ρ1 k => he.mono (fun y ρ2 k => ?_) he2 k) he2 h, pe_weak (pe_slice sl_str ha.pe (po_some he.pe) (po_some hf.pe)) fun σ H Q h => ?_⟩
  · split at k
    · refine hf.mono (fun u ρ3 k => ?_) he2 k
      split at k
      · exact ⟨k.1, hq _ _ k.2⟩
      · exact k.elim
    · exact k.elim
  obtain ⟨ρ, τ, hA, hw⟩ := h
  refine ⟨ρ, τ, hA, ha.mono (fun x ρ1 k nx l v H1 A1 => ?_) (fun _ _ e => e) hw⟩
  obtain ⟨B, h2⟩ := A1.freezeLast nx
  have hx := h2.rep (some v, .sh x.dat) (by simp)
  refine ⟨ρ1, _, ⟨A1.len, B, h2⟩, he.mono (fun y ρ2 k2 ny l2 u H2 A2 => ?_) xw_app k⟩
  split at k2
  · rename_i i ey
    obtain ⟨B2, h3, h4⟩ := A2.still ny
    rw [ey] at h3
    cases h3
    refine ⟨i, rfl, ρ2, _, A2.drop, hf.mono (fun u2 ρ3 k3 nu l3 w H3 A3 => ?_) xw_app k2⟩
    split at k3
    · rename_i z j ex eu
      rw [ex] at hx
      cases hx
      obtain ⟨B3, h5, h6⟩ := A3.still nu
      rw [eu] at h5
      cases h5
      refine ⟨j, rfl, z, rfl, k3.1, k3.2 (fun z => by cases z) ((l3.trans l2).trans l) _ _ (At.addSh A3.len (h6.sublist ?_) (.str _))⟩
      exact List.Sublist.append (List.Sublist.refl _) (List.sublist_append_left _ _)
    · exact k3.elim
  · exact k2.elim
/-! ### one sign in a text -/
def roInS (neg : Bool) : RO2 := fun d e Q => match d, e with
  | .str x, .str z => ∃ c, x = ⟨#[c]⟩ ∧ Q (.sh (.bl (if neg then !decide (c ∈ z.cps.toList) else decide (c ∈ z.cps.toList))))
  | _, _ => False
theorem roInS_mono {neg : Bool} : MonoO (roInS neg) := fun d e _ _ hq h => by
  unfold roInS at h ⊢
  split at h
  · obtain ⟨c, h1, h2⟩ := h; exact ⟨c, h1, hq _ h2⟩
  · exact h
theorem od_inS : OpD G (fun x y H Q => ∃ (c : Nat) (z : Str), x = .str ⟨#[c]⟩ ∧ y = .str z ∧ Q (.bl (decide (c ∈ z.cps.toList))) H) (roInS false) := fun σ ρ τ x y d e H B Q l hr hx hy h => by
  unfold roInS at h
  split at h
  · obtain ⟨c, rfl, h2⟩ := h
    cases hx; cases hy
    exact ⟨c, _, rfl, rfl, h2 (fun z => by cases z) _ _ (At.addSh l hr (.bl _))⟩
  · exact h.elim
theorem od_notinS : OpD G (fun x y H Q => ∃ (c : Nat) (z : Str), x = .str ⟨#[c]⟩ ∧ y = .str z ∧ Q (.bl (!decide (c ∈ z.cps.toList))) H) (roInS true) := fun σ ρ τ x y d e H B Q l hr hx hy h => by
  unfold roInS at h
  split at h
  · obtain ⟨c, rfl, h2⟩ := h
    cases hx; cases hy
    exact ⟨c, _, rfl, rfl, h2 (fun z => by cases z) _ _ (At.addSh l hr (.bl _))⟩
  · exact h.elim
theorem de_inS (ha : DE G X a wa) (hb : DE G X b wb) (hk : behindInMarks .In b = false := by rfl) : DE G X (.Compare a [.In] [b] pos) (wOp (roInS false) wa wb) := de_cmp op_in_sign od_inS roInS_mono ha hb hk
theorem de_notinS (ha : DE G X a wa) (hb : DE G X b wb) (hk : behindInMarks .NotIn b = false := by rfl) : DE G X (.Compare a [.NotIn] [b] pos) (wOp (roInS true) wa wb) := de_cmp op_notIn_sign od_notinS roInS_mono ha hb hk
theorem db_inS (ha : DE G X a wa) (hb : DE G X b wb) (hk : behindInMarks .In b = false := by rfl) : DB G X (.Compare a [.In] [b] pos) (wTest (wOp (roInS false) wa wb)) := db_cmp op_in_sign od_inS roInS_mono ha hb hk
theorem db_notinS (ha : DE G X a wa) (hb : DE G X b wb) (hk : behindInMarks .NotIn b = false := by rfl) : DB G X (.Compare a [.NotIn] [b] pos) (wTest (wOp (roInS true) wa wb)) := db_cmp op_notIn_sign od_notinS roInS_mono ha hb hk
/-! ### a constant of the module -/
theorem de_globS {x : Str} {z : Str} {t : Tok} (hm : X.mg x = some (.str z t)) (hg : Gl X x := by rfl) (hd : (x == ("__debug__" : Str)) = false := by decide) : DE G X (.Name x pos) (wC (.str z)) :=
  de_const (pe_glob (v := .str z) hg hm ⟨t, rfl⟩ hd) fun _ => .str z
end
/-! ### x += e, ints -/
def wAug (i : Nat) (we : DT Sl) : DS := fun D ρ E => match ρ[i]? with
  | some (.sh (.int k)) => we ρ (fun y ρ1 => match y.dat with
    | .int j => D.nx (ρ1.set i (.sh (.int (k + j))))
    | _ => False) E
  | _ => False
section
variable {G : Gx} {X : Cx} {e : Expr} {we : DT Sl} {pos px : Pos}
theorem ds_aug (i : Nat) {x : Str} (hn : X.N.Nodup) (he : DE G X e we) (hN : X.N[i]? = some x := by rfl) (hx : Loc X.env.scope x := by first | exact Or.inl rfl | exact Or.inr rfl) (hf : X.fn x = true ∨ X.env.scope.names.lookup x = some .local := by first | exact .inl rfl | exact .inr rfl) :
    DSt G X (.AugAssign (.Name x px) .Add e pos) (wAug i we) := by
  refine ⟨fun ρ N N' E E' h hd hE => ?_, ps_weak (ps_aug hn hN hx he.pe ip_add hf) fun D σ H h => ?_⟩
  · unfold wAug at h ⊢
    split at h
    · refine he.mono (fun y ρ1 k => ?_) hE h
      split at k
      · exact hd.nx _ k
      · exact k.elim
    · exact h.elim
  obtain ⟨ρ, τ, hA, hw⟩ := h
  unfold wAug at hw
  split at hw
  · rename_i k ek
    obtain ⟨v, B, h1, h2, h3, h4⟩ := hA.freeze ek (fun z => by cases z)
    have ev : v = .int k := by cases h2; rfl
    subst ev
    refine ⟨.int k, h1, ρ, τ, hA, he.mono (fun y ρ1 k2 ny l2 u H2 A2 => ?_) (fun _ _ z => z) hw⟩
    split at k2
    · rename_i j ey
      obtain ⟨B2, h5, h6⟩ := A2.still ny
      rw [ey] at h5
      cases h5
      refine ⟨k, j, rfl, rfl, ?_⟩
      refine k2 (by rw [List.length_set]; exact l2) _ _ (At.store i (At.addSh A2.len h6 (.int _)))
    · exact k2.elim
  · exact hw.elim
end
/-! ### the signs of a text in turn -/
def signs (z : Str) : List D := z.cps.toList.map fun c => .str ⟨#[c]⟩
def wItemsC (w : DT Sl) : DT (List D) := fun ρ Q E => w ρ (fun x ρ1 => match x.dat with
  | .str z => Q (signs z) ρ1
  | _ => False) E
theorem wItemsC_mono {w : DT Sl} (h : Mono w) : Mono (wItemsC w) := fun _ _ _ _ _ hq he q => h (fun x ρ1 k => by
  split at k
  · exact hq _ _ k
  · exact k.elim) he q
section
variable {G : Gx} {X : Cx}
theorem srv_str {z : Str} : Srv G (Its z) [] (signs z) := by
  intro i R H B hr
  refine ⟨fun d e => ?_, fun hl => ?_⟩
  · unfold signs at e
    rw [List.getElem?_map, Option.map_eq_some_iff] at e
    obtain ⟨c, e1, rfl⟩ := e
    rw [Array.getElem?_toList] at e1
    refine ⟨(Array.getElem?_eq_some_iff.mp e1).1, fun x H' hy => ?_⟩
    obtain ⟨rfl, c', e2, rfl⟩ := hy
    rw [e1] at e2
    cases e2
    exact ⟨B, hr, .str _⟩
  · unfold signs at hl
    rw [List.length_map] at hl
    exact hl
theorem di_str {tg l : Expr} {w : DT Sl} (h : DE G X l w) : DI G X tg l (wItemsC w) := by
  refine ⟨wItemsC_mono h.mono, _, pi_str h.pe, fun σ H R q => ?_⟩
  obtain ⟨ρ, τ, hA, hw⟩ := q
  refine ⟨ρ, τ, hA, h.mono (fun x ρ1 k nx l1 v H1 A1 => ?_) (fun _ _ k => k) hw⟩
  obtain ⟨B, h1, h2⟩ := A1.still nx
  split at k
  · rename_i z e
    rw [e] at h1
    cases h1
    exact ⟨z, rfl, k l1 _ [] H1 (by rw [List.append_nil]; exact ⟨A1.len, B, h2⟩) srv_str⟩
  · exact k.elim
end
end DL
set_option Elab.async false
set_option maxRecDepth 100000
set_option maxHeartbeats 4000000
set_option linter.unusedVariables false
/-! data-level layer: texts cut behind, repeated and asked for digits; lists of texts asked for a text -/
namespace DL
open PySem PySem.Spec PyProof.Rows L2 NdefX
theorem Rps.strs_of {K : PySem.W.Frag} {so : Option Addr} {B : Hp} : ∀ {vs : List V} {ns : List Str}, Rps K so B vs (ns.map D.str) → vs = ns.map V.str
  | vs, [], h => by cases h; rfl
  | vs, n :: ns, h => by
    cases h with
    | cons h1 h2 => cases h1; rw [Rps.strs_of h2]; rfl
/-! ### a[e:] -/
def wSlS0 (wa we : DT Sl) : DT Sl := fun ρ Q E => wa ρ (fun x ρ1 => we ρ1 (fun y ρ2 => match x.dat, y.dat with
  | .str z, .int i => z.length ≤ sizeLine ∧ Q (.sh (.str (cutS z (some i) none))) ρ2
  | _, _ => False) E) E
/-! ### x.isdigit() -/
def wIsdig (wa : DT Sl) : DT Sl := fun ρ Q E => wa ρ (fun x ρ1 => match x.dat with
  | .str z => Q (.sh (.bl (Txt.isdigit z))) ρ1
  | _ => False) E
/-! ### s * n -/
def repS (z : Str) (n : Nat) : Str := ⟨(List.replicate n z.cps.toList).flatten.toArray⟩
def roMulS : RO2 := fun d e Q => match d, e with
  | .str z, .int n => z.length = 1 ∧ n ≤ 1000 ∧ -1000 ≤ n ∧ Q (.sh (.str (repS z n.toNat)))
  | _, _ => False
theorem roMulS_mono : MonoO roMulS := fun d e _ _ hq h => by
  unfold roMulS at h ⊢
  split at h
  · exact ⟨h.1, h.2.1, h.2.2.1, hq _ h.2.2.2⟩
  · exact h
theorem repS_fold (a : Array Nat) : ∀ (n : Nat) (b : Array Nat), (List.replicate n a).foldl (· ++ ·) b = b ++ (List.replicate n a.toList).flatten.toArray
  | 0, b => by simp
  | n + 1, b => by
    rw [List.replicate_succ, List.foldl_cons, repS_fold a n, List.replicate_succ, List.flatten_cons]
    apply Array.ext'
    simp
section
variable {X : Cx}
theorem mt_isdigit : MtR X "str.isdigit" (fun x xs H Q => ∃ a, x = .str a ∧ xs = [] ∧ True ∧ Q (.bl (Txt.isdigit a)) H) :=
  mt0 (C := fun _ => True) (g := fun a => .bl (Txt.isdigit a)) fun _ _ s _ _ h => PySem.SC.isdigit (h _ s.toks rfl)
theorem op_mulS : OpR X (binaryOp .Mult) (fun x y H Q => ∃ z n, x = .str z ∧ y = .int n ∧ z.length = 1 ∧ n ≤ 1000 ∧ -1000 ≤ n ∧ Q (.str (repS z n.toNat)) H) := by
  intro pins s σ H x y v u Q I rx ry h
  obtain ⟨z, n, rfl, rfl, hz, h1, h2, q⟩ := h
  obtain ⟨t, rfl⟩ := rx
  obtain ⟨t', rfl⟩ := ry
  have zl : z.cps.toList.length = 1 := by rw [← hz]; exact Array.length_toList
  refine PySem.P.mul_str (by
      have h1 : ¬ n < -(2 ^ 63) := by omega
      have h2 : ¬ n ≥ 2 ^ 63 := by omega
      rw [decide_eq_false h1, decide_eq_false h2]; rfl) (fun a b => ?_) (fun a b => ?_) ?_
  · rw [hz]
    have : n = 1 ∨ 2 ≤ n := by omega
    have := Int.le_ediv_of_mul_le (a := 1) (b := (2 ^ 63 - 1 : Int)) (c := n) (by omega) (by omega)
    omega
  · rw [hz]
    exact PyProof.Rows.short24 (by omega)
  · by_cases c1 : n < 1
    · rw [if_pos c1]
      have e : repS z n.toNat = Str.empty := by
        have : n.toNat = 0 := by omega
        rw [this]; rfl
      rw [e] at q
      exact ⟨by decide, .str Str.empty, H, I.tok _, ⟨_, rfl⟩, q⟩
    · rw [if_neg c1]
      by_cases c2 : (n == 1 || z.length == 0) = true
      · rw [if_pos c2]
        have en : n = 1 := by
          rw [hz] at c2
          simpa using c2
        have e : repS z n.toNat = z := by
          rw [en]
          show (⟨([z.cps.toList] : List (List Nat)).flatten.toArray⟩ : Str) = z
          simp
        rw [e] at q
        exact ⟨.str z, H, I, ⟨t, rfl⟩, q⟩
      · rw [if_neg c2]
        have e : (⟨(List.replicate n.toNat z.cps).foldl (· ++ ·) #[]⟩ : Str) = repS z n.toNat := by
          rw [repS_fold]
          unfold repS
          simp
        rw [e]
        have hl : (repS z n.toNat).length = n.toNat := by
          show (repS z n.toNat).cps.size = _
          unfold repS
          rw [List.size_toArray, List.length_flatten, List.map_replicate, List.sum_replicate_nat, zl, Nat.mul_one]
        refine ⟨?_, .str (repS z n.toNat), H, I.tok _, ⟨_, rfl⟩, q⟩
        rw [hl]
        first
          | (rw [sizeLine_eq]; omega)
          | exact PyProof.Rows.short24 (by omega)
/-- x.index(k), x a list of texts that has it -/
theorem mt_indexS : MtR X "list.index" (fun x xs H Q => ∃ (p : Addr) (ys : List Str) (k : Str), x = .ref p ∧ xs = [.str k] ∧ SqL X.K H p (ys.map V.str) ∧ k ∈ ys ∧ Q (.int (ys.idxOf k : Nat)) H) := by
  intro pins s σ H x xs v us Q I rx rs h
  obtain ⟨p, ys, k, rfl, rfl, hq, hk, q⟩ := h
  cases rx
  cases rs with
  | cons r1 r2 =>
    cases r2
    obtain ⟨t, rfl⟩ := r1
    obtain ⟨its, r, pl, hz⟩ := I.list hq
    rw [List.length_map] at hz
    exact PySem.SeqAt.list_index_strs pl.isList (strs_of_vals r) hz hk ⟨.int (ys.idxOf k : Nat), H, I.tok _, ⟨_, rfl⟩, q⟩
end
/-- x (not) in a list of texts -/
def roInL (neg : Bool) : RO2 := fun d e Q => match d, e with
  | .str x, .lst ds => ∃ ys : List Str, ds = ys.map D.str ∧ Q (.sh (.bl (if neg then !decide (x ∈ ys) else decide (x ∈ ys))))
  | _, _ => False
theorem roInL_mono {neg : Bool} : MonoO (roInL neg) := fun d e _ _ hq h => by
  unfold roInL at h ⊢
  split at h
  · obtain ⟨c, h1, h2⟩ := h; exact ⟨c, h1, hq _ h2⟩
  · exact h
theorem inV_str (x : Str) (ys : List Str) : inV (.str x) (ys.map V.str) = decide (x ∈ ys) := by
  unfold inV
  rw [List.any_map]
  induction ys with
  | nil => rfl
  | cons y r ih =>
    rw [List.any_cons, ih]
    show (y == x || decide (x ∈ r)) = _
    by_cases e : y = x
    · subst e; simp
    · have e2 : ¬ x = y := fun z => e z.symm
      simp [e, e2]
theorem flat_strs (ys : List Str) : (ys.map V.str).all flatV = true := by
  rw [List.all_eq_true]
  intro v hv
  obtain ⟨y, _, rfl⟩ := List.mem_map.mp hv
  rfl
section
variable {G : Gx} {X : Cx} {a b e : Expr} {wa wb we : DT Sl} {pos apos : Pos}
theorem od_inL {neg : Bool} : OpD G (rIn G.K neg) (roInL neg) := fun σ ρ τ x y d e H B Q l hr hx hy h => by
  unfold roInL at h
  split at h
  · obtain ⟨ys, rfl, h2⟩ := h
    cases hx
    cases hy with
    | lst hb hs =>
      have := hs.strs_of
      subst this
      refine ⟨_, _, rfl, .inl (.inl (.inl (hr.hi _ _ hb))), rfl, flat_strs _, ?_⟩
      rw [inV_str]
      exact h2 (fun z => by cases z) _ _ (At.addSh l hr (.bl _))
  · exact h.elim
theorem od_mulS : OpD G (fun x y H Q => ∃ z n, x = .str z ∧ y = .int n ∧ z.length = 1 ∧ n ≤ 1000 ∧ -1000 ≤ n ∧ Q (.str (repS z n.toNat)) H) roMulS := fun σ ρ τ x y d e H B Q l hr hx hy h => by
  unfold roMulS at h
  split at h
  · obtain ⟨h0, h1, h2, h3⟩ := h
    cases hx; cases hy
    exact ⟨_, _, rfl, rfl, h0, h1, h2, h3 (fun z => by cases z) _ _ (At.addSh l hr (.str _))⟩
  · exact h.elim
theorem de_mulS (ha : DE G X a wa) (hb : DE G X b wb) : DE G X (.BinOp a .Mult b pos) (wOp roMulS wa wb) := de_op op_mulS od_mulS roMulS_mono ha hb
theorem de_inL (hK : G.K = X.K) (ha : DE G X a wa) (hb : DE G X b wb) (hk : behindInMarks .In b = false := by rfl) : DE G X (.Compare a [.In] [b] pos) (wOp (roInL false) wa wb) := de_cmp op_in_seq (hK ▸ od_inL) roInL_mono ha hb hk
theorem de_notinL (hK : G.K = X.K) (ha : DE G X a wa) (hb : DE G X b wb) (hk : behindInMarks .NotIn b = false := by rfl) : DE G X (.Compare a [.NotIn] [b] pos) (wOp (roInL true) wa wb) := de_cmp op_notIn_seq (hK ▸ od_inL) roInL_mono ha hb hk
theorem db_notinL (hK : G.K = X.K) (ha : DE G X a wa) (hb : DE G X b wb) (hk : behindInMarks .NotIn b = false := by rfl) : DB G X (.Compare a [.NotIn] [b] pos) (wTest (wOp (roInL true) wa wb)) := db_cmp op_notIn_seq (hK ▸ od_inL) roInL_mono ha hb hk
theorem de_slS0 {p2 : Pos} (ha : DE G X a wa) (he : DE G X e we) : DE G X (.Subscript a (.Slice (some e) none none p2) pos) (wSlS0 wa we) := by
  refine ⟨fun _ _ _ _ _ hq he2 h => ha.mono (fun x ρ1 k => he.mono (fun y ρ2 k => ?_) he2 k) he2 h, pe_weak (pe_slice sl_str ha.pe (po_some he.pe) po_none) fun σ H Q h => ?_⟩
  · split at k
    · exact ⟨k.1, hq _ _ k.2⟩
    · exact k.elim
  obtain ⟨ρ, τ, hA, hw⟩ := h
  refine ⟨ρ, τ, hA, ha.mono (fun x ρ1 k nx l v H1 A1 => ?_) (fun _ _ e => e) hw⟩
  obtain ⟨B, h2⟩ := A1.freezeLast nx
  have hx := h2.rep (some v, .sh x.dat) (by simp)
  refine ⟨ρ1, _, ⟨A1.len, B, h2⟩, he.mono (fun y ρ2 k2 ny l2 u H2 A2 => ?_) xw_app k⟩
  split at k2
  · rename_i z i ex ey
    rw [ex] at hx
    cases hx
    obtain ⟨B2, h3, h4⟩ := A2.still ny
    rw [ey] at h3
    cases h3
    refine ⟨i, rfl, z, rfl, k2.1, k2.2 (fun z => by cases z) (l2.trans l) _ _ (At.addSh A2.len (h4.sublist ?_) (.str _))⟩
    exact List.Sublist.append (List.Sublist.refl _) (List.sublist_append_left _ _)
  · exact k2.elim
theorem de_isdig (ho : DE G X a wa) (hbase : attributeBase a "isdigit" X.env (eval a X.env) = eval a X.env := by rfl) (hline : (apos.endLine == pos.line) = true := by rfl) :
    DE G X (.Call (.Attribute a "isdigit" apos) [] [] pos) (wIsdig wa) := by
  refine ⟨fun _ _ _ _ _ hq he h => ho.mono (fun x ρ1 k => ?_) he h, pe_weak (pe_m0 F.slot_str_isdigit F.type_str_isdigit mt_isdigit ho.pe hbase hline) fun σ H Q h => ?_⟩
  · split at k
    · exact hq _ _ k
    · exact k.elim
  obtain ⟨ρ, τ, hA, hw⟩ := h
  refine ⟨ρ, τ, hA, ho.mono (fun x ρ1 k nx l v H1 A1 => ?_) (fun _ _ e => e) hw⟩
  obtain ⟨B, h1, h2⟩ := A1.still nx
  split at k
  · rename_i z e
    rw [e] at h1
    cases h1
    exact ⟨⟨z, rfl⟩, z, rfl, rfl, trivial, k (fun z => by cases z) l _ _ (At.addSh A1.len h2 (.bl _))⟩
  · exact k.elim
def wIndexS (wa we : DT Sl) : DT Sl := fun ρ Q E => wa ρ (fun x ρ1 => (∃ ds, x.dat = .lst ds) ∧ we ρ1 (fun y ρ2 => match x.dat, y.dat with
  | .lst ds, .str k => ∃ ys : List Str, ds = ys.map D.str ∧ k ∈ ys ∧ Q (.sh (.int (ys.idxOf k : Nat))) ρ2
  | _, _ => False) E) E
theorem de_indexS (hK : G.K = X.K) (ha : DE G X a wa) (he : DE G X e we) (hbase : attributeBase a "index" X.env (eval a X.env) = eval a X.env := by rfl)
    (hfew : ((backTo pos (starEach [e] X.env)).all (fun x => !x.1) && (backToKw pos (keywordEach [] X.env)).all (fun x => x.1.isSome)
      && decide (([e] : List Expr).length + ([] : List Keyword).length + (if ([] : List Keyword).isEmpty then 0 else 1) < 30)) = true := by rfl)
    (hline : (apos.endLine == pos.line) = true := by rfl) (hs : starEach [e] X.env = (false, eval e X.env) :: starEach [] X.env := by rfl) (hplain : (backTo pos (starEach [] X.env)).any (·.1) = false := by rfl) :
    DE G X (.Call (.Attribute a "index" apos) [e] [] pos) (wIndexS wa we) := by
  refine ⟨fun _ _ _ _ _ hq he2 h => ha.mono (fun x ρ1 k => ⟨k.1, he.mono (fun y ρ2 k => ?_) he2 k.2⟩) he2 h, pe_weak (pe_bm PySem.F.plainAttrs_list PySem.F.slot_list_index PySem.F.type_list_index mt_indexS ha.pe (pa_cons he.pe pa_nil (hs := hs)) hbase hfew hline hs hplain) fun σ H Q h => ?_⟩
  · split at k
    · obtain ⟨ys, h1, h2, h3⟩ := k
      exact ⟨ys, h1, h2, hq _ _ h3⟩
    · exact k.elim
  obtain ⟨ρ, τ, hA, hw⟩ := h
  refine ⟨ρ, τ, hA, ha.mono (fun x ρ1 k nx l v H1 A1 => ?_) (fun _ _ e => e) hw⟩
  obtain ⟨⟨ds, ex⟩, k⟩ := k
  obtain ⟨B, h2⟩ := A1.freezeLast nx
  have hx := h2.rep (some v, .sh x.dat) (by simp)
  refine ⟨?_, ?_⟩
  · rw [ex] at hx
    cases hx with
    | lst hb hs => exact .inl ⟨rfl, _, .inl (.inl (h2.hi _ _ hb))⟩
  refine ⟨ρ1, _, ⟨A1.len, B, h2⟩, he.mono (fun y ρ2 k2 ny l2 u H2 A2 => ?_) xw_app k⟩
  obtain ⟨B2, h3, h4⟩ := A2.still ny
  have hx2 := h4.rep (some v, .sh x.dat) (by simp)
  split at k2
  · rename_i ds2 kk ex2 ey
    obtain ⟨ys, rfl, hk, q⟩ := k2
    rw [ex2] at hx2
    rw [ey] at h3
    cases h3
    cases hx2 with
    | lst hb hs =>
      have := hs.strs_of
      subst this
      refine ⟨_, ys, kk, rfl, rfl, .inl (.inl (h4.hi _ _ hb)), hk, q (fun z => by cases z) (l2.trans l) _ _ (At.addSh A2.len (h4.sublist ?_) (.int _))⟩
      exact List.Sublist.append (List.Sublist.refl _) (List.sublist_append_left _ _)
  · exact k2.elim
end
end DL
set_option Elab.async false
set_option maxRecDepth 100000
set_option maxHeartbeats 4000000
set_option linter.unusedVariables false
/-! data-level layer, part Mc: what an own class defines: x + y, x & y, x == y, ~x, len(x), str(x), x[i] -/
namespace DL
open PySem PySem.Spec PyProof.Rows L2 NdefX
theorem rv_ref {a : Addr} : RelV (.ref a) (Value.ref a) := rfl
section
variable {X : Cx} {pins : List (Addr × Obj)} {σ : St} {H : Hp} {s : Shared} {A' : Around} {k : Nat} {f : Addr} {fd : FuncData} {ps : List Str} {sp : Sp} {vs : List V} {us : List Value} {Q : VK} {E : XK}
/-- a def is called with values, somewhere below the body -/
theorem call_fn (F : FnOk X.prog X.w X.K X.mg X.base (L2N.CX X.prog X.w) k f fd ps sp) (hb : Binds X.K fd ps []) (hr : Room k A') (hf : A'.frames = X.A.frames) (hx : Passes (L2N.CX X.prog X.w) X E)
    (I : Inv X pins σ H s) (rv : Vals vs us) (h : sp vs H Q E) : wpAny (model X.prog X.w) A' (call (.ref f) us) (EP X pins σ Q) X.xe s := by
  have z := I.env0
  have e0 : Env0 X.prog X.w X.K X.mg X.base A' X.stack s H := ⟨hf ▸ z.frames, z.mod, z.bs, z.bsz, z.funs, z.frf, z.hok, z.bare⟩
  have l1 : (us ++ []).length = ps.length := by rw [List.append_nil, ← rv.length, F.len _ _ _ _ h]
  have bd := hb s us I.kIn l1
  rw [List.append_nil] at bd
  refine wpAny_call (codeAny_mono (F.run A' X.stack s H ⟨us, []⟩ us vs Q E hr e0 bd rv h) fun r s' q => ?_)
  cases r with
  | error er => exact hx pins σ H s er s' I q
  | ok fl =>
    cases fl with
    | ret u =>
      obtain ⟨v, H', I', r1, r2⟩ := I.after q
      exact ⟨v, H', I', r1, r2⟩
    | next => exact q.elim
    | brk => exact q.elim
    | cont => exact q.elim
theorem ep_back {u : Value} {s' : Shared} (h : EP X pins σ Q u s') : PySem.W.CmpBack (EP X pins σ Q) u s' := by
  have h0 := h
  obtain ⟨v, H', I', r, q⟩ := h
  cases u with
  | notImplemented =>
    have z : RelV v Value.notImplemented := r
    cases v with
    | int i => obtain ⟨t, e⟩ := (show ∃ t, Value.notImplemented = Value.int i t from z); cases e
    | str i => obtain ⟨t, e⟩ := (show ∃ t, Value.notImplemented = Value.str i t from z); cases e
    | byt i => obtain ⟨t, e⟩ := (show ∃ t, Value.notImplemented = Value.bytes i t from z); cases e
    | flt i => obtain ⟨t, e⟩ := (show ∃ t, Value.notImplemented = Value.float i t from z); cases e
    | non => cases (show Value.notImplemented = Value.none from z)
    | bl b => cases (show Value.notImplemented = Value.bool b from z)
    | ref a => cases (show Value.notImplemented = Value.ref a from z)
    | ty n => cases (show Value.notImplemented = Value.type n from z)
  | _ => exact h0
end
/-- the relation of an own operator on two instances of the class at C -/
def rOwn2 (C : Addr) (sp : Sp) (E : XK) : R2 := fun x y H Q => ∃ a dx fs b dy gs, x = .ref a ∧ y = .ref b ∧ H a = some (.ins C dx fs) ∧ H b = some (.ins C dy gs) ∧ sp [x, y] H Q E
/-- .. x of the class, y anything -/
def rOwnI (C : Addr) (sp : Sp) (E : XK) : R2 := fun x y H Q => ∃ a dx fs, x = .ref a ∧ H a = some (.ins C dx fs) ∧ sp [x, y] H Q E
section
variable {X : Cx} {k : Nat} {C f : Addr} {fd : FuncData} {ps : List Str} {sp : Sp} {E : XK}
theorem op_own {op : Operator} (hc : PySem.W.selfFirst X.K C = true) (hm : Meth X.K C (PySem.dunder op.info.2) f) (F : FnOk X.prog X.w X.K X.mg X.base (L2N.CX X.prog X.w) k f fd ps sp) (hb : Binds X.K fd ps []) (hr : Room k X.A)
    (hx : Passes (L2N.CX X.prog X.w) X E) : OpR X (binaryOp op) (rOwn2 C sp E) := by
  intro pins s σ H x y v u Q I rx ry h
  obtain ⟨a, dx, fs, b, dy, gs, rfl, rfl, ha, hb', h⟩ := h
  cases (show v = Value.ref a from rx)
  cases (show u = Value.ref b from ry)
  obtain ⟨mA, O, _⟩ := ins_get I.hok ha
  obtain ⟨mB, O', _⟩ := ins_get I.hok hb'
  obtain ⟨od, J, _⟩ := O.look
  obtain ⟨od', J', _⟩ := O'.look
  obtain ⟨m, hF⟩ := I.fr
  refine PySem.W.binop_K hF I.ok.mod.kin J J'.type hc hm.at_ hm.fn ?_
  exact wpAny_mono (call_fn F hb hr rfl hx I (.cons rv_ref (.cons rv_ref .nil)) h) (fun _ _ q => ep_back q) fun _ _ e => e
theorem op_ownEq (hu : X.A.units < cLine) (hm : Meth X.K C "__eq__" f) (F : FnOk X.prog X.w X.K X.mg X.base (L2N.CX X.prog X.w) k f fd ps sp) (hb : Binds X.K fd ps []) (hr : Room k X.A)
    (hx : Passes (L2N.CX X.prog X.w) X E) : OpR X (compareOp .Eq) (rOwn2 C sp E) := by
  intro pins s σ H x y v u Q I rx ry h
  obtain ⟨a, dx, fs, b, dy, gs, rfl, rfl, ha, hb', h⟩ := h
  cases (show v = Value.ref a from rx)
  cases (show u = Value.ref b from ry)
  obtain ⟨mA, O, _⟩ := ins_get I.hok ha
  obtain ⟨mB, O', _⟩ := ins_get I.hok hb'
  obtain ⟨od, J, _⟩ := O.look
  obtain ⟨od', J', _⟩ := O'.look
  obtain ⟨m, hF⟩ := I.fr
  show wpAny (model X.prog X.w) X.A (richCompare .Eq (.ref a) (.ref b)) _ _ s
  refine PySem.W.cmp_K (op := .Eq) (tb := .ref C) hu hF I.ok.mod.kin J J'.type (by simp [PySem.W.notFirst]) hm.at_ hm.fn ?_
  exact wpAny_mono (call_fn F hb hr rfl hx I (.cons rv_ref (.cons rv_ref .nil)) h) (fun _ _ q => ep_back q) fun _ _ e => e
theorem un_own {op : UnaryOp} {nm : Str} (hop : op = .Invert) (hm : Meth X.K C "__invert__" f) (F : FnOk X.prog X.w X.K X.mg X.base (L2N.CX X.prog X.w) k f fd ps sp) (hb : Binds X.K fd ps []) (hr : Room k X.A)
    (hx : Passes (L2N.CX X.prog X.w) X E) : UnR X (unaryOp op) (fun x H Q => ∃ a dx fs, x = .ref a ∧ H a = some (.ins C dx fs) ∧ sp [x] H Q E) := by
  subst hop
  intro pins s σ H x v Q I rx h
  obtain ⟨a, dx, fs, rfl, ha, h⟩ := h
  cases (show v = Value.ref a from rx)
  obtain ⟨mA, O, _⟩ := ins_get I.hok ha
  obtain ⟨od, J, _⟩ := O.look
  unfold unaryOp
  refine wpAny_holding ?_
  refine wpAny_ite_split (fun z => by cases z) (fun _ => ?_)
  refine wpAny_bind (PySem.W.special_fn I.kIn J hm.at_ (beq_iff_eq.mp hm.fn) (wpAny_mono (call_fn F hb hr rfl hx I (.cons rv_ref .nil) h) (fun r s' q => ?_) fun _ _ e => e))
  exact wpAny_pure q
theorem call_ownLen (hm : Meth X.K C "__len__" f) (F : FnOk X.prog X.w X.K X.mg X.base (L2N.CX X.prog X.w) k f fd ps sp) (hb : Binds X.K fd ps []) (hr : Room (k + 1) X.A)
    (hx : Passes (L2N.CX X.prog X.w) X E) : CallR X (.builtin "len") (fun xs H Q => ∃ a dx fs, xs = [.ref a] ∧ H a = some (.ins C dx fs) ∧ sp xs H (fun v H' => ∃ n : Nat, v = .int n ∧ n < 2 ^ 63 ∧ Q v H') E) := by
  intro pins s σ H xs us Q I rs h
  obtain ⟨a, dx, fs, rfl, ha, h⟩ := h
  obtain ⟨u, rfl, ru⟩ := vals1 rs
  cases (show u = Value.ref a from ru)
  obtain ⟨mA, O, _⟩ := ins_get I.hok ha
  obtain ⟨od, J, _⟩ := O.look
  obtain ⟨m, hF⟩ := I.fr
  refine PySem.W.len_K hF I.ok.mod.kin J hm.at_ hm.fn ?_
  refine wpAny_mono (call_fn F hb hr.in1 rfl hx I (.cons rv_ref .nil) h) (fun r s' q => ?_) fun _ _ e => e
  obtain ⟨v, H', I', rv, n, e, hn, q⟩ := q
  subst e
  obtain ⟨t, rfl⟩ := (show ∃ t, r = Value.int n t from rv)
  exact ⟨⟨by omega, by omega⟩, .int n, H', I'.tok _, ⟨_, rfl⟩, q⟩
/-- x[i] -/
theorem pe_ownIx {a b : Expr} {ta tb : TE} {pos : Pos} (hm : Meth X.K C "__getitem__" f) (hfi : PySem.W.fnIn X.K f = true) (F : FnOk X.prog X.w X.K X.mg X.base (L2N.CX X.prog X.w) k f fd ps sp) (hb : Binds X.K fd ps []) (hr : Room (k + 1) X.A)
    (hx : Passes (L2N.CX X.prog X.w) X E) (ha : PE X a ta) (hpb : PE X b tb) (hs : ∀ v u, subscripted b true v u = runValue (.builtin "lifetime.subscript" ⟨[v, u], []⟩)) : PE X (.Subscript a b pos) (tOp (rOwnI C sp E) ta tb) := by
  refine ⟨fun pins s σ H Q I h => ?_⟩
  refine Subscript_ (binT ha hpb I h fun v u s2 x y H2 I2 rx ry q => ?_)
  obtain ⟨p, dx, fs, rfl, hp, q⟩ := q
  cases (show v = Value.ref p from rx)
  obtain ⟨mA, O, _⟩ := ins_get I2.hok hp
  obtain ⟨od, J, _⟩ := O.look
  obtain ⟨m, hF⟩ := I2.fr
  exact PySem.W.sub_K hF I2.ok.mod.kin J hm.at_ hfi hm.fn (call_fn F hb hr.in1 rfl hx I2 (.cons rv_ref (.cons ry .nil)) q) (hs _ _)
/-- str(x) -/
theorem call_ownStr (hm : Meth X.K C "__str__" f) (F : FnOk X.prog X.w X.K X.mg X.base (L2N.CX X.prog X.w) k f fd ps sp) (hb : Binds X.K fd ps []) (hr : Room (k + 2) X.A)
    (hx : Passes (L2N.CX X.prog X.w) X E) : CallR X (.type "str") (fun xs H Q => ∃ a dx fs, xs = [.ref a] ∧ H a = some (.ins C dx fs) ∧ sp xs H (fun v H' => ∃ z : Str, v = .str z ∧ Q v H') E) := by
  intro pins s σ H xs us Q I rs h
  obtain ⟨a, dx, fs, rfl, ha, h⟩ := h
  obtain ⟨u, rfl, ru⟩ := vals1 rs
  cases (show u = Value.ref a from ru)
  obtain ⟨mA, O, _⟩ := ins_get I.hok ha
  obtain ⟨od, J, _⟩ := O.look
  refine callType_newIn (S := fun A R s' => A = X.A.in1 ∧ s' = s ∧ (∀ r s', (∃ z t, r = Value.str z t) → EP X pins σ Q r s' → R (.ok (.ret r)) s') ∧ ∀ e s', X.xe e s' → R (.error e) s') PySem.F.called_str (by decide) (PySem.F.typeCall_str_1 _) (PySem.F.newCall_str_1 _) (fun obj => PySem.F.args_object_init_2 obj _) PySem.F.entry_str_new ?_
    ⟨rfl, rfl, fun r s' ⟨z, t, e⟩ q => by subst e; exact ⟨typeIs_str _ _ _, q⟩, fun e s' q => q⟩
  refine .of_wp fun A R s' hS => ?_
  obtain ⟨eA, eS, hok, her⟩ := hS
  subst eA eS
  rw [str_new_tree]
  refine wpAny_bind (wpAny_pure ?_)
  refine wpAny_bind (wpAny_of_eq isSubtype_str_str ?_)
  refine wpAny_bind (wpAny_mono (Q := fun r s' => R (.ok (.ret r)) s') ?_ (fun r s' q => wpAny_pure ⟨_, rfl, q⟩) her)
  unfold Builtin.Str.strOf
  rw [show Builtin.Str.isExactStr (Value.ref a) = false from rfl]
  refine wpAny_bind (m := cRoomFor _ _) (wpAny_cRoomFor (by have := hr.units; show X.A.units + 1 + 1 < cLine; omega) ?_)
  refine wpAny_bind (m := callSpecial? _ (Str.ofString "__str__")) (PySem.W.special_fn I.kIn J hm.at_ (beq_iff_eq.mp hm.fn) (wpAny_mono (call_fn (A' := X.A.in1.in1) F hb hr.in1.in1 rfl hx I (.cons rv_ref .nil) h) (fun r s' q => ?_) fun _ _ e => e))
  obtain ⟨v, H', I', rv, z, e, q⟩ := q
  subst e
  obtain ⟨t, rfl⟩ := (show ∃ t, r = Value.str z t from rv)
  exact wpAny_pure (hok _ _ ⟨z, t, rfl⟩ ⟨.str z, H', I', ⟨t, rfl⟩, q⟩)
end

/-! ### by data -/
/-- a special method of the class c -/
structure FDs (P : Program) (w : World) (K : PySem.W.Frag) (mg : Str → Option Value) (base : Heap) (k : Nat) (c m : Str) (n : Nat) (W : DW1) : Prop where
  mono : MonoW W
  ex : ∃ (f : Addr) (fd : FuncData) (ps : List Str), Meth K (He.ga K c) m f ∧ PySem.W.fnIn K f = true ∧ PySem.W.selfFirst K (He.ga K c) = true ∧ FnOk P w K mg base (L2N.CX P w) k f fd ps (spD K n W) ∧ Binds K fd ps []
def insOf (c : Str) : D → Prop
  | .ins c' _ _ => c' = c
  | _ => False
theorem ins_at {K : PySem.W.Frag} {so : Option Addr} {B : Hp} {v : V} {d : D} {c : Str} (h : Rp K so B v d) (hi : insOf c d) : ∃ p dx fs, v = .ref p ∧ B p = some (.ins (He.ga K c) dx fs) := by
  cases h with
  | ins hp hl hr => cases (show _ = c from hi); exact ⟨_, _, _, rfl, hp⟩
  | _ => exact hi.elim
def wOwn2 (c : Str) (W : DW1) (wa wb : DT Sl) : DT Sl := fun ρ Q E => wa ρ (fun x ρ1 => wb ρ1 (fun y ρ2 => insOf c x.dat ∧ insOf c y.dat ∧ W [x.dat, y.dat] (fun z => Q z ρ2) (fun e => E e ρ2)) E) E
def wOwnI (c : Str) (W : DW1) (wa wb : DT Sl) : DT Sl := fun ρ Q E => wa ρ (fun x ρ1 => wb ρ1 (fun y ρ2 => insOf c x.dat ∧ W [x.dat, y.dat] (fun z => Q z ρ2) (fun e => E e ρ2)) E) E
def wOwn1 (c : Str) (W : DW1) (wa : DT Sl) : DT Sl := fun ρ Q E => wa ρ (fun x ρ1 => insOf c x.dat ∧ W [x.dat] (fun z => Q z ρ1) (fun e => E e ρ1)) E
def wOwnLen (c : Str) (W : DW1) (wa : DT (List Sl)) : DT Sl := fun ρ Q E => wa ρ (fun xs ρ1 => ∃ d, datas xs = [d] ∧ insOf c d ∧ W [d] (fun z => (∃ n : Nat, z = .sh (.int n) ∧ n < 2 ^ 63) ∧ Q z ρ1) (fun e => E e ρ1)) E
def wOwnStr (c : Str) (W : DW1) (wa : DT (List Sl)) : DT Sl := fun ρ Q E => wa ρ (fun xs ρ1 => ∃ d, datas xs = [d] ∧ insOf c d ∧ W [d] (fun z => (∃ y : Str, z = .sh (.str y)) ∧ Q z ρ1) (fun e => E e ρ1)) E
section
variable {c : Str} {W : DW1} {wa wb : DT Sl} {wr : DT (List Sl)}
theorem wOwn2_mono (hW : MonoW W) (ha : Mono wa) (hb : Mono wb) : Mono (wOwn2 c W wa wb) := fun _ _ _ _ _ hq he h =>
  ha (fun _ _ h1 => hb (fun _ _ h2 => ⟨h2.1, h2.2.1, hW (fun _ q => hq _ _ q) (fun _ q => he _ _ q) h2.2.2⟩) he h1) he h
theorem wOwnI_mono (hW : MonoW W) (ha : Mono wa) (hb : Mono wb) : Mono (wOwnI c W wa wb) := fun _ _ _ _ _ hq he h =>
  ha (fun _ _ h1 => hb (fun _ _ h2 => ⟨h2.1, hW (fun _ q => hq _ _ q) (fun _ q => he _ _ q) h2.2⟩) he h1) he h
theorem wOwn1_mono (hW : MonoW W) (ha : Mono wa) : Mono (wOwn1 c W wa) := fun _ _ _ _ _ hq he h =>
  ha (fun _ _ h2 => ⟨h2.1, hW (fun _ q => hq _ _ q) (fun _ q => he _ _ q) h2.2⟩) he h
theorem wOwnLen_mono (hW : MonoW W) (ha : Mono wr) : Mono (wOwnLen c W wr) := fun _ _ _ _ _ hq he h =>
  ha (fun _ _ ⟨d, h1, h2, h3⟩ => ⟨d, h1, h2, hW (fun _ q => ⟨q.1, hq _ _ q.2⟩) (fun _ q => he _ _ q) h3⟩) he h
theorem wOwnStr_mono (hW : MonoW W) (ha : Mono wr) : Mono (wOwnStr c W wr) := fun _ _ _ _ _ hq he h =>
  ha (fun _ _ ⟨d, h1, h2, h3⟩ => ⟨d, h1, h2, hW (fun _ q => ⟨q.1, hq _ _ q.2⟩) (fun _ q => he _ _ q) h3⟩) he h
end
section
variable {G : Gx} {X : Cx} {a b : Expr} {wa wb : DT Sl} {pos p : Pos} {c m : Str} {k : Nat} {W : DW1}
/-- two parts read, then a def's promise over both -/
theorem two_own {σ : St} {H : Hp} {Q : VK} {w : DT Sl} {py : D → Prop} {R : R2} (hw : ∀ ρ Q E, w ρ Q E → wa ρ (fun x ρ1 => wb ρ1 (fun y ρ2 => insOf c x.dat ∧ py y.dat ∧ W [x.dat, y.dat] (fun z => Q z ρ2) (fun e => E e ρ2)) E) E)
    (hR : ∀ so B x y d e H Q, Same B H → Rp G.K so B x d → Rp G.K so B y e → insOf c d → py e → spD G.K 2 W [x, y] H Q (G.EX []) → R x y H Q)
    (hW : MonoW W) (hE : ∀ σ σ' : St, G.EX σ = G.EX σ') (ha : Mono wa) (hb : Mono wb) (h : tD G w σ H Q) :
    tD G wa σ H fun x H1 => tD G wb σ H1 fun y H2 => R x y H2 Q := by
  obtain ⟨ρ, τ, hA, h⟩ := h
  refine ⟨ρ, τ, hA, ha (fun x ρ1 h1 nx l1 v1 H1 A1 => ?_) (fun _ _ e => e) (hw _ _ _ h)⟩
  refine ⟨ρ1, _, A1, hb (fun y ρ2 h2 ny l2 v2 H2 A2 => ?_) xw_app h1⟩
  obtain ⟨B, hr⟩ := A2.freezeLast ny
  have A3 : At G σ ρ2 (τ ++ [(some v1, x)] ++ [(some v2, .sh y.dat)]) H2 := ⟨A2.len, B, hr⟩
  obtain ⟨B', hr'⟩ := A3.rel
  rw [List.append_assoc, ← List.append_assoc] at hr'
  have f := Rel.freeze (R₁ := σ.zip ρ2 ++ τ) (R₂ := [(some v2, .sh y.dat)]) nx hr'
  have r1 : Rp G.K G.so _ v1 x.dat := f.rep (some v1, .sh x.dat) (by simp)
  have r2 : Rp G.K G.so _ v2 y.dat := f.rep (some v2, .sh y.dat) (by simp)
  refine hR G.so _ v1 v2 x.dat y.dat H2 Q f.hi r1 r2 h2.1 h2.2.1 ?_
  have z := call_ends (Q := Q) (n := 2) hW A2.len rfl (f.sublist (List.sublist_append_left _ _)) (.cons r1 (.cons r2 .nil)) (hW (fun z hz nz v H' A' => hz nz (l2.trans l1) v H' A') (fun _ e => e) h2.2.2)
  rw [hE [] σ]; exact z
theorem ret_two (so : Option Addr) (B : Hp) (x y : V) (d e : D) (H : Hp) (Q : VK) (s : Same B H) (h1 : Rp G.K so B x d) (h2 : Rp G.K so B y e) (i1 : insOf c d) (i2 : insOf c e) (h : spD G.K 2 W [x, y] H Q (G.EX [])) : rOwn2 (He.ga G.K c) (spD G.K 2 W) (G.EX []) x y H Q := by
  obtain ⟨p, dx, fs, rfl, q1⟩ := ins_at h1 i1
  obtain ⟨q, dy, gs, rfl, q2⟩ := ins_at h2 i2
  exact ⟨p, dx, fs, q, dy, gs, rfl, rfl, s _ _ q1, s _ _ q2, h⟩
/-- x + y, x & y -/
theorem de_ownB {op : Operator} (F : FDs X.prog X.w X.K X.mg X.base k c m 2 W) (hr : Room k X.A) (hK : G.K = X.K) (tk : L2N.Takes X fun cls d σ H => G.EX σ cls d H) (hE : ∀ σ σ' : St, G.EX σ = G.EX σ') (ha : DE G X a wa) (hb : DE G X b wb) (hm : PySem.dunder op.info.2 = m := by rfl) :
    DE G X (.BinOp a op b pos) (wOwn2 c W wa wb) := by
  obtain ⟨hW, f, fd, ps, hM, hfi, hs, hF, hB⟩ := F
  have tk' : L2N.Takes X fun cls d _ H => G.EX [] cls d H := tk.imp fun c d σ H h => by rw [hE σ []]; exact h
  refine ⟨wOwn2_mono hW ha.mono hb.mono, pe_weak (pe_op (op_own (E := G.EX []) hs (hm ▸ hM) hF hB hr (L2N.passes_call tk' fun _ _ _ _ h => h)) ha.pe hb.pe) fun σ H Q h => ?_⟩
  rw [← hK]
  exact two_own (py := insOf c) (fun _ _ _ h => h) ret_two hW hE ha.mono hb.mono h
/-- x == y -/
theorem de_ownEq (F : FDs X.prog X.w X.K X.mg X.base k c "__eq__" 2 W) (hr : Room k X.A) (hK : G.K = X.K) (tk : L2N.Takes X fun cls d σ H => G.EX σ cls d H) (hE : ∀ σ σ' : St, G.EX σ = G.EX σ') (ha : DE G X a wa) (hb : DE G X b wb) :
    DE G X (.Compare a [.Eq] [b] pos) (wOwn2 c W wa wb) := by
  obtain ⟨hW, f, fd, ps, hM, hfi, hs, hF, hB⟩ := F
  have tk' : L2N.Takes X fun cls d _ H => G.EX [] cls d H := tk.imp fun c d σ H h => by rw [hE σ []]; exact h
  refine ⟨wOwn2_mono hW ha.mono hb.mono, pe_weak (pe_cmpR (op_ownEq (E := G.EX []) hr.units0 hM hF hB hr (L2N.passes_call tk' fun _ _ _ _ h => h)) ha.pe hb.pe (nomark _)) fun σ H Q h => ?_⟩
  rw [← hK]
  exact two_own (py := insOf c) (fun _ _ _ h => h) ret_two hW hE ha.mono hb.mono h
theorem db_ownEq (F : FDs X.prog X.w X.K X.mg X.base k c "__eq__" 2 W) (hr : Room k X.A) (hK : G.K = X.K) (tk : L2N.Takes X fun cls d σ H => G.EX σ cls d H) (hE : ∀ σ σ' : St, G.EX σ = G.EX σ') (ha : DE G X a wa) (hb : DE G X b wb) :
    DB G X (.Compare a [.Eq] [b] pos) (wTest (wOwn2 c W wa wb)) := by
  obtain ⟨hW, f, fd, ps, hM, hfi, hs, hF, hB⟩ := F
  have tk' : L2N.Takes X fun cls d _ H => G.EX [] cls d H := tk.imp fun c d σ H h => by rw [hE σ []]; exact h
  refine ⟨wTest_mono (wOwn2_mono hW ha.mono hb.mono), pt_weak (pt_cmpR (op_ownEq (E := G.EX []) hr.units0 hM hF hB hr (L2N.passes_call tk' fun _ _ _ _ h => h)) ha.pe hb.pe (nomark _)) fun σ H Q h => ?_⟩
  rw [← hK]
  exact two_own (py := insOf c) (fun _ _ _ h => h) ret_two hW hE ha.mono hb.mono (test_of (wOwn2_mono hW ha.mono hb.mono) h)
/-- x[i] -/
theorem de_ownIx (F : FDs X.prog X.w X.K X.mg X.base k c "__getitem__" 2 W) (hr : Room (k + 1) X.A) (hK : G.K = X.K) (tk : L2N.Takes X fun cls d σ H => G.EX σ cls d H) (hE : ∀ σ σ' : St, G.EX σ = G.EX σ') (ha : DE G X a wa) (hb : DE G X b wb)
    (hs : ∀ v u, subscripted b true v u = runValue (.builtin "lifetime.subscript" ⟨[v, u], []⟩) := by intro _ _; rfl) : DE G X (.Subscript a b pos) (wOwnI c W wa wb) := by
  obtain ⟨hW, f, fd, ps, hM, hfi, hs1, hF, hB⟩ := F
  have tk' : L2N.Takes X fun cls d _ H => G.EX [] cls d H := tk.imp fun c d σ H h => by rw [hE σ []]; exact h
  refine ⟨wOwnI_mono hW ha.mono hb.mono, pe_weak (pe_ownIx (E := G.EX []) hM hfi hF hB hr (L2N.passes_call tk' fun _ _ _ _ h => h) ha.pe hb.pe hs) fun σ H Q h => ?_⟩
  rw [← hK]
  refine two_own (c := c) (W := W) (py := fun _ => True) (fun ρ Q E h => ha.mono (fun _ _ k => hb.mono (fun _ _ k => ⟨k.1, trivial, k.2⟩) (fun _ _ e => e) k) (fun _ _ e => e) h) (fun so B x y d e H Q s h1 h2 i1 _ h => ?_) hW hE ha.mono hb.mono h
  obtain ⟨p, dx, fs, rfl, q1⟩ := ins_at h1 i1
  exact ⟨p, dx, fs, rfl, s _ _ q1, h⟩
/-- ~x -/
theorem de_inv (F : FDs X.prog X.w X.K X.mg X.base k c "__invert__" 1 W) (hr : Room k X.A) (hK : G.K = X.K) (tk : L2N.Takes X fun cls d σ H => G.EX σ cls d H) (hE : ∀ σ σ' : St, G.EX σ = G.EX σ') (ha : DE G X a wa) : DE G X (.UnaryOp .Invert a pos) (wOwn1 c W wa) := by
  obtain ⟨hW, f, fd, ps, hM, hfi, hs, hF, hB⟩ := F
  have tk' : L2N.Takes X fun cls d _ H => G.EX [] cls d H := tk.imp fun c d σ H h => by rw [hE σ []]; exact h
  refine ⟨wOwn1_mono hW ha.mono, pe_weak (pe_un (un_own (nm := "") (E := G.EX []) rfl hM hF hB hr (L2N.passes_call tk' fun _ _ _ _ h => h)) ha.pe) fun σ H Q h => ?_⟩
  obtain ⟨ρ, τ, hA, hw⟩ := h
  refine ⟨ρ, τ, hA, ha.mono (fun x ρ1 k nx l v H1 A1 => ?_) (fun _ _ e => e) hw⟩
  obtain ⟨B, h1, h2⟩ := A1.still nx
  obtain ⟨p, dx, fs, rfl, q1⟩ := ins_at h1 k.1
  have z := call_ends (Q := Q) (n := 1) hW A1.len rfl h2 (.cons h1 .nil) (hW (fun z hz nz v H' A' => hz nz l v H' A') (fun _ e => e) k.2)
  rw [← hK]
  exact ⟨p, dx, fs, rfl, h2.hi _ _ q1, by rw [hE [] σ]; exact z⟩
/-- len(x) -/
theorem de_ownLen (F : FDs X.prog X.w X.K X.mg X.base k c "__len__" 1 W) (hr : Room (k + 1) X.A) (hK : G.K = X.K) (tk : L2N.Takes X fun cls d σ H => G.EX σ cls d H) (hE : ∀ σ σ' : St, G.EX σ = G.EX σ') (hmg : X.mg "len" = none) {wr : DT (List Sl)} (ha : DA G X [a] wr) (hg : Gl X "len" := by rfl)
    (he : starEach [a] X.env = (false, eval a X.env) :: starEach [] X.env := by rfl) : DE G X (.Call (.Name "len" p) [a] [] pos) (wOwnLen c W wr) := by
  obtain ⟨hW, f, fd, ps, hM, hfi, hs, hF, hB⟩ := F
  have tk' : L2N.Takes X fun cls d _ H => G.EX [] cls d H := tk.imp fun c d σ H h => by rw [hE σ []]; exact h
  refine ⟨wOwnLen_mono hW ha.mono, pe_weak (pe_callB (call_ownLen (E := G.EX []) hM hF hB hr (L2N.passes_call tk' fun _ _ _ _ h => h)) hg hmg (by decide +kernel) ha.pa (he := he)) fun σ H Q h => ?_⟩
  obtain ⟨ρ, τ, hA, hw⟩ := h
  refine ⟨ρ, τ, hA, ha.mono (fun xs ρ1 k nxs ln l vs H1 lv A1 => ?_) (fun _ _ e => e) hw⟩
  obtain ⟨B, h1, h2⟩ := A1.stills lv nxs
  obtain ⟨d, e1, e2, e3⟩ := k
  rw [e1] at h1
  cases h1 with
  | cons h1 h0 =>
    cases h0
    obtain ⟨p, dx, fs, rfl, q1⟩ := ins_at h1 e2
    have z := call_ends (Q := fun v H' => ∃ n : Nat, v = .int n ∧ n < 2 ^ 63 ∧ Q v H') (n := 1) hW A1.len rfl h2 (.cons h1 .nil) (hW (fun z hz nz v H' A' => by
      obtain ⟨⟨n, rfl, hn⟩, q⟩ := hz
      obtain ⟨B', r'⟩ := A'.rel
      have rr : Rp G.K G.so B' v (.int n) := r'.rep (some v, .sh (.int n)) (by simp)
      cases rr
      exact ⟨n, rfl, hn, q nz l _ H' A'⟩) (fun _ e => e) e3)
    rw [← hK]
    exact ⟨p, dx, fs, rfl, h2.hi _ _ q1, by rw [hE [] σ]; exact z⟩
/-- str(x) -/
theorem de_ownStr (F : FDs X.prog X.w X.K X.mg X.base k c "__str__" 1 W) (hr : Room (k + 2) X.A) (hK : G.K = X.K) (tk : L2N.Takes X fun cls d σ H => G.EX σ cls d H) (hE : ∀ σ σ' : St, G.EX σ = G.EX σ') (hmg : X.mg "str" = none) {wr : DT (List Sl)} (ha : DA G X [a] wr) (hg : Gl X "str" := by rfl)
    (he : starEach [a] X.env = (false, eval a X.env) :: starEach [] X.env := by rfl) : DE G X (.Call (.Name "str" p) [a] [] pos) (wOwnStr c W wr) := by
  obtain ⟨hW, f, fd, ps, hM, hfi, hs, hF, hB⟩ := F
  have tk' : L2N.Takes X fun cls d _ H => G.EX [] cls d H := tk.imp fun c d σ H h => by rw [hE σ []]; exact h
  refine ⟨wOwnStr_mono hW ha.mono, pe_weak (pe_callTy (call_ownStr (E := G.EX []) hM hF hB hr (L2N.passes_call tk' fun _ _ _ _ h => h)) hg hmg (by decide +kernel) ha.pa (he := he)) fun σ H Q h => ?_⟩
  obtain ⟨ρ, τ, hA, hw⟩ := h
  refine ⟨ρ, τ, hA, ha.mono (fun xs ρ1 k nxs ln l vs H1 lv A1 => ?_) (fun _ _ e => e) hw⟩
  obtain ⟨B, h1, h2⟩ := A1.stills lv nxs
  obtain ⟨d, e1, e2, e3⟩ := k
  rw [e1] at h1
  cases h1 with
  | cons h1 h0 =>
    cases h0
    obtain ⟨p, dx, fs, rfl, q1⟩ := ins_at h1 e2
    have z := call_ends (Q := fun v H' => ∃ y : Str, v = .str y ∧ Q v H') (n := 1) hW A1.len rfl h2 (.cons h1 .nil) (hW (fun z hz nz v H' A' => by
      obtain ⟨⟨n, rfl⟩, q⟩ := hz
      obtain ⟨B', r'⟩ := A'.rel
      have rr : Rp G.K G.so B' v (.str n) := r'.rep (some v, .sh (.str n)) (by simp)
      cases rr
      exact ⟨n, rfl, q nz l _ H' A'⟩) (fun _ e => e) e3)
    rw [← hK]
    exact ⟨p, dx, fs, rfl, h2.hi _ _ q1, by rw [hE [] σ]; exact z⟩
end
end DL
set_option Elab.async false
set_option maxRecDepth 100000
set_option maxHeartbeats 4000000
set_option linter.unusedVariables false
/-! data-level layer, part Md: displays that keep what is one's own within, things lent to a call -/
namespace DL
open PySem PySem.Spec PyProof.Rows L2 NdefX
/-- a slot that may stand within a thing of one's own -/
def okO : Sl → Bool
  | .un => false
  | .sh d => NoL d
  | .ow _ ds => NoLs ds
  | .dp _ _ => true
abbrev feetO (xs : List Sl) : List Addr := xs.flatMap Sl.foot
/-- the same, told as a tree of one's own -/
theorem okO_dpr {K : PySem.W.Frag} {so : Option Addr} {B H : Hp} {v : V} {x : Sl} (h : RepS K so B H (some v) x) (o : okO x = true) : Dpr K so B H v x.dat x.foot := by
  cases x with
  | un => cases o
  | sh d => exact .leaf (show Rp K so B v d from h) o
  | ow p ds =>
    obtain ⟨rfl, vs, h1, h2⟩ : v = .ref p ∧ ∃ vs, H p = some (.lst vs) ∧ Rps K so B vs ds := h
    exact .lst h1 (h2.dprs o)
  | dp F d => exact (show Dpr K so B H v d F from h)
theorem feet_temps : ∀ {vs : List V} {xs : List Sl}, vs.length = xs.length → feet (temps vs xs) = feetO xs
  | [], [], _ => rfl
  | [], _ :: _, l => by cases l
  | _ :: _, [], l => by cases l
  | v :: vs, x :: xs, l => by
    show feet ((some v, x) :: temps vs xs) = _
    rw [feet_cons, feet_temps (by simpa using l)]
    rfl
theorem temps_dprs {K : PySem.W.Frag} {so : Option Addr} {B H : Hp} : ∀ {vs : List V} {xs : List Sl}, vs.length = xs.length → (∀ r ∈ temps vs xs, RepS K so B H r.1 r.2) → (∀ x ∈ xs, okO x = true) → Dprs K so B H vs (datas xs) (feetO xs)
  | [], [], _, _, _ => .nil
  | [], _ :: _, l, _, _ => by cases l
  | _ :: _, [], l, _, _ => by cases l
  | v :: vs, x :: xs, l, h, o => by
    refine .cons (okO_dpr (h (some v, x) List.mem_cons_self) (o x List.mem_cons_self)) (temps_dprs (by simpa using l) (fun r hr => h r (List.mem_cons_of_mem _ hr)) fun y hy => o y (List.mem_cons_of_mem _ hy))
section
variable {G : Gx} {σ : St} {ρ : DEnv} {τ : Roots} {H : Hp} {vs : List V} {xs : List Sl}
/-- what stands under the temporaries becomes one root -/
theorem At.gather {v : V} {d : D} {F : List Addr} {B H' : Hp} (l : ρ.length = σ.length) (hr : Rel G (σ.zip ρ ++ τ ++ temps vs xs) H' B) (hf : F.Nodup) (hd : ∀ p ∈ F, p ∈ feetO xs ∨ (B p = none ∧ G.H0 p = none ∧ G.so ≠ some p ∧ p ∉ feet (σ.zip ρ ++ τ)))
    (lv : vs.length = xs.length) (q : Dpr G.K G.so B H' v d F) : At G σ ρ (τ ++ [(some v, .dp F d)]) H' := by
  have hn := hr.nd
  rw [feet_append, feet_temps lv] at hn
  obtain ⟨n1, n2, n3⟩ := List.nodup_append.mp hn
  refine ⟨l, B, hr.lo, hr.hi, hr.fr, hr.nw, fun r h => ?_, ?_, fun p hp => ?_, hr.st⟩
  · rw [← List.append_assoc] at h
    rcases List.mem_append.mp h with h | h
    · exact hr.rep r (List.mem_append_left _ h)
    · have e : r = (some v, .dp F d) := by simpa using h
      subst e
      exact q
  · rw [← List.append_assoc, feet_append, feet_one]
    refine List.nodup_append.mpr ⟨n1, hf, fun a ha b hb z => ?_⟩
    subst z
    rcases hd a hb with h | h
    · exact n3 a ha a h rfl
    · exact h.2.2.2 ha
  · rw [← List.append_assoc, feet_append, feet_one] at hp
    rcases List.mem_append.mp hp with hp | hp
    · exact hr.ap p (by rw [feet_append]; exact List.mem_append_left _ hp)
    · rcases hd p hp with h | h
      · exact hr.ap p (by rw [feet_append, feet_temps lv]; exact List.mem_append_right _ h)
      · exact ⟨h.1, h.2.1, h.2.2.1⟩
end
/-- [a, b, ..], (a, b, ..) that own what their items own -/
def wLstD (wa : DT (List Sl)) : DT Sl := fun ρ Q E => wa ρ (fun xs ρ1 => (∀ x ∈ xs, okO x = true) ∧ ∀ p, Q (.dp (p :: feetO xs) (.lst (datas xs))) ρ1) E
def wTupD (wa : DT (List Sl)) : DT Sl := fun ρ Q E => wa ρ (fun xs ρ1 => (∀ x ∈ xs, okO x = true) ∧ Q (.dp (feetO xs) (.tup (datas xs))) ρ1) E
section
variable {G : Gx} {X : Cx} {es : List Expr} {wr : DT (List Sl)} {pos : Pos}
theorem de_lstD (ha : DA G X es wr) (hz : es.length ≤ 1000 := by decide) : DE G X (.List es pos) (wLstD wr) := by
  refine ⟨fun _ _ _ _ _ hq he q => ha.mono (fun xs ρ1 k => ⟨k.1, fun p => hq _ _ (k.2 p)⟩) he q, pe_weak (pe_lst ha.pa) fun σ H Q h => ?_⟩
  obtain ⟨ρ, τ, hA, hw⟩ := h
  refine ⟨ρ, τ, hA, ha.mono (fun xs ρ1 k nxs ln l vs H1 lv A1 => ?_) (fun _ _ e => e) hw⟩
  refine ⟨by rw [lv, ln, sizeLine_eq]; omega, fun p hp => k.2 p (fun z => by cases z) l _ _ ?_⟩
  obtain ⟨B, hr⟩ := A1.rel
  rw [← List.append_assoc] at hr
  have hd := temps_dprs lv (fun r h => hr.rep r (List.mem_append_right _ h)) k.1
  have h1 := hr.newH (o := .lst vs) hp
  have nf : p ∉ feet (σ.zip ρ1 ++ τ ++ temps vs xs) := fun z => by
    obtain ⟨ys, hy⟩ := hr.foot_some z
    rw [hp] at hy; cases hy
  have hn := hr.nd
  rw [feet_append, feet_temps lv] at hn nf
  obtain ⟨n1, n2, n3⟩ := List.nodup_append.mp hn
  refine At.gather A1.len h1 (List.nodup_cons.mpr ⟨fun z => nf (List.mem_append_right _ z), n2⟩) (fun q hq => ?_) lv (.lst upd_same (hd.mono (Same.refl _) fun q hq o e => ?_))
  · rcases List.mem_cons.mp hq with rfl | hq
    · right
      refine ⟨hr.free hp, ?_, fun z => ?_, fun z => nf (List.mem_append_left _ z)⟩
      · cases z : G.H0 q with
        | none => rfl
        | some o =>
          by_cases hs : G.so = some q
          · obtain ⟨x, hx⟩ := hr.store_some hs
            rw [hp] at hx; cases hx
          · have := hr.fr q o z hs
            rw [hp] at this; cases this
      · obtain ⟨x, hx⟩ := hr.store_some z
        rw [hp] at hx; cases hx
    · exact .inl hq
  · rw [upd_ne (ne_of_none e hp)]; exact e
theorem de_tupD {x1 : Nat} (ha : DA G X es wr) (hK : G.K = X.K) (hz : es.length ≤ 1000 := by decide) : DE G X (.Tuple es x1 pos) (wTupD wr) := by
  refine ⟨fun _ _ _ _ _ hq he q => ha.mono (fun xs ρ1 k => ⟨k.1, hq _ _ k.2⟩) he q, pe_weak (pe_tup ha.pa) fun σ H Q h => ?_⟩
  obtain ⟨ρ, τ, hA, hw⟩ := h
  refine ⟨ρ, τ, hA, ha.mono (fun xs ρ1 k nxs ln l vs H1 lv A1 => ?_) (fun _ _ e => e) hw⟩
  refine ⟨by rw [lv, ln, sizeLine_eq]; omega, fun p hp => k.2 (fun z => by cases z) l _ _ ?_⟩
  obtain ⟨B, hr⟩ := A1.rel
  rw [← List.append_assoc] at hr
  have hd := temps_dprs lv (fun r h => hr.rep r (List.mem_append_right _ h)) k.1
  have h1 := hr.newB (o := .tup vs) hp
  have hn := hr.nd
  rw [feet_append, feet_temps lv] at hn
  obtain ⟨n1, n2, n3⟩ := List.nodup_append.mp hn
  refine At.gather A1.len h1 n2 (fun q hq => .inl hq) lv (.tup (.inl (.inl upd_same)) (hd.mono (same_upd (hr.free hp)) fun q hq o e => ?_))
  rw [upd_ne (ne_of_none e hp)]; exact e
end
/-! ### what holds no store -/
def plS : Nat → D → Bool
  | 0, _ => false
  | _ + 1, .non => true
  | _ + 1, .bl _ => true
  | _ + 1, .int _ => true
  | _ + 1, .str _ => true
  | _ + 1, .dic [] [] => true
  | n + 1, .lst l => decide (l.length ≤ 100000) && l.all (plS n)
  | n + 1, .tup l => decide (l.length ≤ 100000) && l.all (plS n)
  | _ + 1, _ => false
section
variable {K : PySem.W.Frag} {so so' : Option Addr} {B : Hp}
theorem plS_rp : ∀ {n : Nat} {d : D} {v : V}, plS n d = true → Rp K so B v d → Rp K so' B v d := by
  intro n
  induction n with
  | zero => intro d v h; cases h
  | succ n ih =>
    have all : ∀ {ds : List D} {vs : List V}, ds.all (plS n) = true → Rps K so B vs ds → Rps K so' B vs ds := by
      intro ds
      induction ds with
      | nil => intro vs _ r; cases r; exact .nil
      | cons d ds ih2 =>
        intro vs h r
        rw [List.all_cons, Bool.and_eq_true] at h
        cases r with
        | cons r1 r2 => exact .cons (ih h.1 r1) (ih2 h.2 r2)
    intro d v h r
    cases r with
    | non => exact .non
    | bl b => exact .bl b
    | int i => exact .int i
    | str x => exact .str x
    | lst hp hr =>
      have h2 : (decide (_ ≤ 100000) && _) = true := h
      rw [Bool.and_eq_true] at h2
      exact .lst hp (all h2.2 hr)
    | tup hp hr =>
      have h2 : (decide (_ ≤ 100000) && _) = true := h
      rw [Bool.and_eq_true] at h2
      exact .tup hp (all h2.2 hr)
    | @dic p ks vs ds hp hl hr =>
      cases ks with
      | cons _ _ => cases ds <;> cases h
      | nil =>
        cases ds with
        | cons _ _ => cases h
        | nil => cases hr; exact .dic hp hl .nil
    | ins _ _ _ => cases h
    | exn _ _ => cases h
    | exa _ _ _ _ => cases h
    | sto _ => cases h
    | scr _ => cases h
end
/-- f(x, y): both lent, their slots stay as they are; the answer is a bool -/
def wLend2 (W : DW1) (i j : Nat) : DT Sl := fun ρ Q _ => ∃ x y n, ρ[i]? = some x ∧ x ≠ .un ∧ ρ[j]? = some y ∧ y ≠ .un ∧ plS n x.dat = true ∧ plS n y.dat = true ∧ W [x.dat, y.dat] (fun z => ∃ b, z = .sh (.bl b) ∧ Q z ρ) (fun _ => False)
theorem wLend2_mono {W : DW1} {i j : Nat} (hW : MonoW W) : Mono (wLend2 W i j) := fun ρ _ _ _ _ hq _ ⟨x, y, n, h1, h2, h3, h4, h5, h6, h7⟩ =>
  ⟨x, y, n, h1, h2, h3, h4, h5, h6, hW (fun z ⟨b, e, k⟩ => ⟨b, e, hq _ _ k⟩) (fun _ z => z) h7⟩
section
variable {G : Gx} {X : Cx} {p pos q1 q2 : Pos} {x : Str} {k : Nat} {W : DW1}
/-- a slot's value as it stands, frozen in a part that is larger -/
theorem rel_both {σ : St} {ρ : DEnv} {τ : Roots} {H B : Hp} {x y : Sl} {i j : Nat} (l : ρ.length = σ.length) (hr : Rel G (σ.zip ρ ++ τ) H B) (hx : ρ[i]? = some x) (nx : x ≠ .un) (hy : ρ[j]? = some y) (ny : y ≠ .un) :
    ∃ v u B', σ[i]? = some (some v) ∧ σ[j]? = some (some u) ∧ Same B' H ∧ Rp G.K G.so B' v x.dat ∧ Rp G.K G.so B' u y.dat := by
  obtain ⟨v, B1, a1, a2, a3, a4⟩ := At.freeze (G := G) (τ := τ) ⟨l, B, hr⟩ hx nx
  have hy2 : ∃ y2, (ρ.set i (.sh x.dat))[j]? = some y2 ∧ y2 ≠ .un ∧ y2.dat = y.dat := by
    by_cases e : i = j
    · subst e
      have hl : i < ρ.length := by
        rcases Nat.lt_or_ge i ρ.length with z | z
        · exact z
        · rw [List.getElem?_eq_none z] at hx; cases hx
      rw [hx] at hy; cases hy
      exact ⟨_, List.getElem?_set_self hl, (fun z => by cases z), rfl⟩
    · exact ⟨y, by rw [List.getElem?_set_ne e]; exact hy, ny, rfl⟩
  obtain ⟨y2, b1, b2, b3⟩ := hy2
  obtain ⟨u, B2, c1, c2, c3, c4⟩ := At.freeze (G := G) (τ := τ) ⟨a3, B1, a4⟩ b1 b2
  obtain ⟨L, R, w, z1, z2, z3⟩ := zip_split a3 b1
  refine ⟨v, u, B2, a1, c1, c4.hi, ?_, b3 ▸ c2⟩
  -- the first is still told in the later part
  have z : Rel G _ H B2 := c4
  have l2 : ((ρ.set i (.sh x.dat)).set j (.sh y2.dat))[i]? = some (.sh x.dat) := by
    have hl : i < ρ.length := by
      rcases Nat.lt_or_ge i ρ.length with z | z
      · exact z
      · rw [List.getElem?_eq_none z] at hx; cases hx
    by_cases e : i = j
    · subst e
      rw [hx] at hy; cases hy
      rw [List.getElem?_set_self (by rw [List.length_set]; exact hl), b3]
    · rw [List.getElem?_set_ne (Ne.symm e), List.getElem?_set_self hl]
  obtain ⟨L2', R2', w2, y1, y2', y3⟩ := zip_split c3 l2
  rw [a1] at y1
  cases y1
  have := z.rep (some v, .sh x.dat) (by rw [y2']; simp)
  exact this
theorem de_lend2 {nx ny : Str} (i j : Nat) (F : FD X.prog X.w X.K X.mg X.base k x 2 W) (hr : Room k X.A) (hK : G.K = X.K) (hN : X.N[i]? = some nx := by rfl) (hN2 : X.N[j]? = some ny := by rfl)
    (hv : Vis X.env.scope nx := by first | exact Or.inl rfl | exact Or.inr (Or.inl rfl) | exact Or.inr (Or.inr rfl)) (hv2 : Vis X.env.scope ny := by first | exact Or.inl rfl | exact Or.inr (Or.inl rfl) | exact Or.inr (Or.inr rfl))
    (hd : (nx == ("__debug__" : Str)) = false := by decide) (hcd : (nx == ("__classdict__" : Str)) = false := by decide) (hd2 : (ny == ("__debug__" : Str)) = false := by decide) (hcd2 : (ny == ("__classdict__" : Str)) = false := by decide)
    (hg : Gl X x := by rfl) (hdb : (x == ("__debug__" : Str)) = false := by decide)
    (he : starEach [.Name nx q1, .Name ny q2] X.env = (false, eval (.Name nx q1) X.env) :: starEach [.Name ny q2] X.env := by rfl) (he2 : starEach [.Name ny q2] X.env = (false, eval (.Name ny q2) X.env) :: starEach [] X.env := by rfl)
    (hpl : (backTo pos (starEach [.Name ny q2] X.env)).any (·.1) = false := by rfl) : DE G X (.Call (.Name x p) [.Name nx q1, .Name ny q2] [] pos) (wLend2 W i j) := by
  obtain ⟨hW, f, fd, ps, hp, hm, hk, hF, hB⟩ := F
  refine ⟨wLend2_mono hW, pe_weak (pe_callS (E := fun _ => fun _ _ _ => False) hF hr hg hm hk hB (fun σ => L2N.passAt (takes_no (X := X)) σ) (pa_cons (pe_var hN hv hd hcd) (pa_cons (pe_var hN2 hv2 hd2 hcd2) pa_nil he2) he) hdb he hpl) fun σ H Q h => ?_⟩
  obtain ⟨ρ, τ, ⟨l, B, hr0⟩, x, y, n, h1, h2, h3, h4, h5, h6, h7⟩ := h
  obtain ⟨v, u, B', e1, e2, sB, r1, r2⟩ := rel_both l hr0 h1 h2 h3 h4
  refine ⟨v, e1, u, e2, ?_⟩
  show spD X.K 2 W [v, u] H Q _
  rw [← hK]
  refine ⟨none, B', [x.dat, y.dat], rfl, sB, (fun s z => by cases z), .cons (plS_rp h5 r1) (.cons (plS_rp h6 r2) .nil), hW (fun z hz nz v' H' q => ?_) (fun _ z => z.elim) h7⟩
  obtain ⟨b, rfl, hq⟩ := hz
  obtain ⟨B2, q⟩ := q
  have rr : Rp G.K none B2 v' (.bl b) := q.rep (some v', .sh (.bl b)) (by simp)
  have sH : ∀ a o, H a = some o → H' a = some o := fun a o e => q.fr a o e (fun z => by cases z)
  cases rr
  refine hq nz rfl _ H' (At.addSh l ⟨hr0.lo, fun a o e => sH a o (hr0.hi a o e), fun a o e n => sH a o (hr0.fr a o e n), hr0.nw, fun r hr => (hr0.rep r hr).mono (Same.refl _) fun p _ o e => sH p o e, hr0.nd, hr0.ap, fun s e => ?_⟩ (.bl b))
  obtain ⟨s1, s2⟩ := hr0.st s e
  obtain ⟨ys, hy⟩ := hr0.store_some e
  exact ⟨s1, s2.mono (Same.refl _) ((sH s _ hy).trans hy.symm)⟩
end
end DL
set_option Elab.async false
set_option maxRecDepth 100000
set_option maxHeartbeats 4000000
set_option linter.unusedVariables false
/-! data-level layer, part Me: a def that spoils the lists of what it is handed -/
namespace DL
open PySem PySem.Spec PyProof.Rows L2 NdefX
/-- a tree whose lists nobody else looks at -/
structure Ow1 (K : PySem.W.Frag) (B H : Hp) (v : V) (d : D) (F : List Addr) : Prop where
  hi : Same B H
  t : Dpr K none B H v d F
  nd : F.Nodup
  fr : ∀ p ∈ F, B p = none
/-- all but F is as it was -/
def Kp (F : List Addr) (H H' : Hp) : Prop := ∀ a o, a ∉ F → H a = some o → H' a = some o
theorem Kp.trans {F : List Addr} {H H1 H2 : Hp} (h : Kp F H H1) (k : Kp F H1 H2) : Kp F H H2 := fun a o n e => k a o n (h a o n e)
theorem Kp.sub {F F' : List Addr} {H H1 : Hp} (h : Kp F H H1) (s : ∀ a ∈ F, a ∈ F') : Kp F' H H1 := fun a o n e => h a o (fun z => n (s a z)) e
theorem Kp.of {F : List Addr} {H H1 : Hp} (h : Same H H1) : Kp F H H1 := fun a o _ e => h a o e
def spS (K : PySem.W.Frag) (n : Nat) : Sp := fun vs H Q _ => ∃ v B d F, vs = [v] ∧ Ow1 K B H v d F ∧ plS n d = true ∧ ∀ H', Kp F H H' → Q .non H'
/-- the def that spoils, n levels deep -/
structure FDx (P : Program) (w : World) (K : PySem.W.Frag) (mg : Str → Option Value) (base : Heap) (k : Nat) (x : Str) (n : Nat) : Prop where
  ex : ∃ (f : Addr) (fd : FuncData) (ps : List Str), mg x = some (.ref f) ∧ PySem.W.keepIn K (.ref f) = true ∧ FnOk P w K mg base (L2N.CX P w) k f fd ps (spS K n) ∧ Binds K fd ps []
section
variable {K : PySem.W.Frag} {B H : Hp} {v : V} {F : List Addr} {ds : List D}
theorem Ow1.lst (h : Ow1 K B H v (.lst ds) F) : ∃ p vs F', v = .ref p ∧ F = p :: F' ∧ H p = some (.lst vs) ∧ Dprs K none B H vs ds F' := by
  have t := h.t
  cases t with
  | leaf h1 h2 => cases h2
  | lst h1 h2 => exact ⟨_, _, _, rfl, rfl, h1, h2⟩
theorem Ow1.tup (h : Ow1 K B H v (.tup ds) F) : ∃ p vs, v = .ref p ∧ SqT K B p vs ∧ Dprs K none B H vs ds F := by
  have t := h.t
  cases t with
  | leaf h1 h2 =>
    cases h1 with
    | tup q r => exact ⟨_, _, rfl, q, r.dprs h2⟩
  | tup h1 h2 => exact ⟨_, _, rfl, h1, h2⟩
theorem Dprs.len {vs : List V} : ∀ {ds : List D} {F : List Addr}, Dprs K none B H vs ds F → vs.length = ds.length := by
  induction vs with
  | nil => intro ds F h; cases h; rfl
  | cons v vs ih => intro ds F h; cases h with | cons _ r => rw [List.length_cons, List.length_cons, ih r]
end
/-- a test of the handed value's kind -/
def tTst (K : PySem.W.Frag) (f : D → Option Bool) (pn : List (Addr × Obj)) : TT := fun σ H Q => ∃ v B d F b, σ[0]? = some (some v) ∧ σ.length = 2 ∧ Ow1 K B H v d F ∧ f d = some b ∧ PinD pn d ∧ ∀ H', Same H H' → Q b H'
section
variable {X : Cx} {e : Expr} {f : D → Option Bool}
theorem pt_tst (h : ∀ G : Gx, G.K = X.K → DB G X e (wTest (wIsi f X.pn (wVar 0)))) : PT X e (tTst X.K f X.pn) := by
  refine ⟨fun pins s σ H Q I h1 => ?_⟩
  obtain ⟨v, B, d, F, b, h0, hl, o, hf, hp, q⟩ := h1
  have hj : Same (join B (part H F)) H := fun a o1 e => by
    by_cases ha : a ∈ F
    · rw [join_r (o.fr a ha), part_in ha] at e; exact e
    · have : join B (part H F) a = B a := by
        unfold join; rw [part_out ha]; cases B a <;> rfl
      rw [this] at e; exact o.hi a o1 e
  have rd : Rp X.K none (join B (part H F)) v d := o.t.still (join_l _ _) fun p hp xs e => by rw [join_r (o.fr p hp), part_in hp]; exact e
  match σ, hl, h0, I with
  | [a, u], _, h0, I =>
    have h0' : a = some v := by simpa using h0
    subst h0'
    refine (h ⟨X.K, none, join B (part H F), H, fun _ _ _ _ => True⟩ rfl).pt.run pins s _ H Q I ⟨[.sh d, .un], [], ⟨rfl, _, Rel.entry hj (fun r hr => ?_) rfl fun s z => by cases z⟩, ?_⟩
    · rcases List.mem_cons.mp hr with rfl | hr
      · exact rd
      · have : r = (u, .un) := by simpa using hr
        subst this
        cases u <;> trivial
    · show wIsi f X.pn (wVar 0) _ _ _
      unfold wIsi
      show (match f d with | some b => _ | none => False)
      rw [hf]
      refine ⟨hp, fun _ H' A' => q H' fun a o1 e => ?_⟩
      obtain ⟨B', r'⟩ := A'.rel
      exact r'.fr a o1 e fun z => by cases z
end
section
variable {X : Cx} {t1 t2 : Expr} {it : Str} {n k : Nat} {p1 p2 p3 p4 p5 p6 p7 p8 p9 q1 q2 q3 q4 q5 q6 q7 q8 q9 r1 r2 r3 r4 r5 r6 : Pos} {j1 j2 j3 : Nat}
/-- the turns over the items -/
theorem spoil_turns {σ : St} {v : V} {q : Addr} {vs : List V} {ds : List D} {F : List Addr} {B H : Hp} (hs : Same B H) (hq : H q = some (.lst vs)) (nq : q ∉ F) (hd : Dprs X.K none B H vs ds F) (nd : F.Nodup) (fr : ∀ p ∈ F, B p = none)
    (hpl : ds.all (plS n) = true) (h0 : σ[0]? = some (some v)) (hl : σ.length = 2) {D' : Ends} (hend : ∀ σ' H', σ'[0]? = some (some v) → σ'.length = 2 → Kp F H H' → D'.nx σ' H') :
    ∃ W : Nat → Nat → St → Hp → Prop, (∃ m, W 0 m σ H) ∧ ∀ i m σ H, W i m σ H →
      ((Itl X.K q).stop i H ∧ D'.nx σ H) ∨ ((Itl X.K q).go i H ∧ ∃ N : St → Hp → Prop, (∀ σ' H', N σ' H' → ∃ m', m' < m ∧ W (i + 1) m' σ' H') ∧ ∀ x H', (Itl X.K q).yld i H x H' → gName 1 x σ H' fun σ2 H2 => tDrop (tCallS (spS X.K n) (fun _ _ _ _ => False) (tCons (tVar 1) tNil)) { D' with nx := N, ct := N, bk := D'.nx } σ2 H2) := by
  refine for_list (K := X.K) (a := q) (xs := vs) (g := gName 1) (tb := tDrop (tCallS (spS X.K n) (fun _ _ _ _ => False) (tCons (tVar 1) tNil))) (D := D') (σ := σ) (H := H)
    (fun i σ' H' => σ'[0]? = some (some v) ∧ σ'.length = 2 ∧ Kp F H H' ∧ ∃ Fr, Dprs X.K none B H' (vs.drop i) (ds.drop i) Fr ∧ Fr.Nodup ∧ ∀ a ∈ Fr, a ∈ F) ⟨h0, hl, fun a o _ e => e, F, by rw [List.drop_zero, List.drop_zero]; exact hd, nd, fun a h => h⟩
    (fun i σ' H' _ h => .inl (.inl (h.2.2.1 _ _ nq hq))) (fun i x σ' H' hx h => ?_) (fun σ' H' h => hend σ' H' h.1 h.2.1 h.2.2.1)
  obtain ⟨a1, a2, a3, Fr, a4, a5, a6⟩ := h
  have hi : i < vs.length := by
    rcases Nat.lt_or_ge i vs.length with z | z
    · exact z
    · rw [List.getElem?_eq_none z] at hx; cases hx
  have hi2 : i < ds.length := by rw [← hd.len]; exact hi
  rw [List.drop_eq_getElem_cons hi, List.drop_eq_getElem_cons hi2] at a4
  have ex : vs[i] = x := by rw [List.getElem?_eq_getElem hi] at hx; exact Option.some.inj hx
  cases a4 with
  | @cons _ _ _ _ F1 F2 b1 b2 =>
    obtain ⟨n1, n2, n3⟩ := List.nodup_append.mp a5
    have sB : Same B H' := fun a o e => a3 a o (fun z => by rw [fr a z] at e; cases e) (hs a o e)
    refine ⟨x, by rw [List.getElem?_set_self (by omega)], x, B, ds[i], F1, rfl, ⟨sB, ex ▸ b1, n1, fun p hp => fr p (a6 p (List.mem_append_left _ hp))⟩, List.all_eq_true.mp hpl _ (List.getElem_mem hi2), fun H2 kp => ?_⟩
    refine ⟨by rw [List.getElem?_set_ne (by decide)]; exact a1, by rw [List.length_set]; exact a2, a3.trans (kp.sub fun a h => a6 a (List.mem_append_left _ h)), F2, b2.mono (Same.refl _) (fun p hp o e => kp p o (fun z => n3 p z p hp rfl) e), n2, fun a h => a6 a (List.mem_append_right _ h)⟩
theorem plS_cases {n : Nat} {d : D} (h : plS (n + 1) d = true) : (∃ ds, d = .lst ds ∧ ds.length ≤ 100000 ∧ ds.all (plS n) = true) ∨ (∃ ds, d = .tup ds ∧ ds.length ≤ 100000 ∧ ds.all (plS n) = true) ∨ (isLst d = some false ∧ isTup d = some false) := by
  cases d with
  | lst ds =>
    have h2 : (decide (ds.length ≤ 100000) && ds.all (plS n)) = true := h
    rw [Bool.and_eq_true, decide_eq_true_eq] at h2
    exact .inl ⟨ds, rfl, h2⟩
  | tup ds =>
    have h2 : (decide (ds.length ≤ 100000) && ds.all (plS n)) = true := h
    rw [Bool.and_eq_true, decide_eq_true_eq] at h2
    exact .inr (.inl ⟨ds, rfl, h2⟩)
  | dic ks ds => exact .inr (.inr ⟨rfl, rfl⟩)
  | non => exact .inr (.inr ⟨rfl, rfl⟩)
  | bl _ => exact .inr (.inr ⟨rfl, rfl⟩)
  | int _ => exact .inr (.inr ⟨rfl, rfl⟩)
  | str _ => exact .inr (.inr ⟨rfl, rfl⟩)
  | ins _ _ _ => cases h
  | exc _ _ _ _ => cases h
  | sto => cases h
  | scr _ => cases h
theorem plS_pin {n : Nat} {d : D} (h : plS n d = true) : PinD [] d := by
  cases n with
  | zero => cases h
  | succ n => cases d <;> first | trivial | cases h
/-- isinstance(x, list) by the value's kind alone -/
def rKind (K : PySem.W.Frag) (u : Value) : List V → Hp → VK → Prop := fun xs H Q => ∃ v c t b, xs = [v, c] ∧ (∀ w, RelV c w → w = u) ∧ TyX K H v t ∧ PySem.W.kitOne K t u = some b ∧ Q (.bl b) H
theorem cr_kind {u : Value} : CallR X (.builtin "isinstance") (rKind X.K u) := by
  intro pins s σ H xs us Q I r h
  obtain ⟨v, c, t, b, rfl, hc, ty, e, q⟩ := h
  obtain ⟨u1, u2, rfl, r1, r2⟩ := vals2 r
  rw [hc u2 r2]
  obtain ⟨P, z, pp, hx⟩ := kit_of I r1 ty
  exact PySem.W.kia_one z I.kIn pp e hx fun tk => ⟨.bl b, H, I.tok tk, rfl, q⟩
def tKind (K : PySem.W.Frag) (u : Value) : TT := fun σ H Q => ∃ v t b, σ[0]? = some (some v) ∧ TyX K H v t ∧ PySem.W.kitOne K t u = some b ∧ Q b H
theorem pt_kind {gv T : Str} {n : String} (hN : X.N[0]? = some gv) (hv : Vis X.env.scope gv) (hm : X.mg "isinstance" = none) (hT : X.mg T = none) (hb : bootBuiltins T = some (.type n)) (hg : Gl X "isinstance" := by rfl) (hgT : Gl X T := by rfl)
    (hn : T ≠ "__name__" := by decide) (hd : (T == ("__debug__" : Str)) = false := by decide) (hd2 : (gv == ("__debug__" : Str)) = false := by decide) (hcd : (gv == ("__classdict__" : Str)) = false := by decide)
    (he : starEach [.Name gv q1, .Name T q2] X.env = (false, eval (.Name gv q1) X.env) :: starEach [.Name T q2] X.env := by rfl) (he2 : starEach [.Name T q2] X.env = (false, eval (.Name T q2) X.env) :: starEach [] X.env := by rfl)
    (hpl : (backTo q3 (starEach [.Name T q2] X.env)).any (·.1) = false := by rfl) (ht : ∀ whole, isTrue (.Call (.Name "isinstance" q4) [.Name gv q1, .Name T q2] [] q3) X.env whole = (do let v ← whole; standAt (Expr.Call (.Name "isinstance" q4) [.Name gv q1, .Name T q2] [] q3).pos; holding [v] (truthy v)) := by intro _; rfl) :
    PT X (.Call (.Name "isinstance" q4) [.Name gv q1, .Name T q2] [] q3) (tKind X.K (.type n)) := by
  refine pt_weak (pt_val (pe_callB (cr_kind (u := .type n)) hg hm (by decide +kernel) (pa_cons (pe_var hN hv hd2 hcd) (pa_cons (pe_bltn (v := .ty n) hgT hT hb rfl hn hd) pa_nil he2) he) (he := he) (hpl := hpl)) ht) fun σ H Q h => ?_
  obtain ⟨v, t, b, h0, ty, e, q⟩ := h
  exact ⟨v, h0, v, .ty n, t, b, rfl, fun w r => r, ty, e, b, rfl, q⟩
abbrev tSpA (K : PySem.W.Frag) (n : Nat) : TS := tFor (iList K (tCB (fun xs H Q => ∃ p ys, xs = [.ref p] ∧ (SqL K H p ys ∨ SqT K H p ys) ∧ ∀ l, H l = none → Q (.ref l) (upd H l (.lst ys))) (tCons (tVar 0) tNil))) (gName 1) (tDrop (tCallS (spS K n) (fun _ _ _ _ => False) (tCons (tVar 1) tNil)))
abbrev tSpB (K : PySem.W.Frag) : TS := tSeq (tDrop (tBM0 K "list" rReverse (tVar 0))) (tSeq (tDrop (tBM K "list" rAppend (tVar 0) (tCons (tC (.str "spoilt")) tNil))) (tAsg (tC (.str "spoilt")) (gSub (tVar 0) (tC (.int 0)) rSetL)))
theorem ty_pl {n : Nat} {K : PySem.W.Frag} {B H : Hp} {v : V} {d : D} {F : List Addr} (o : Ow1 K B H v d F) (h : plS n d = true) : ∃ t, kdT d = some t ∧ TyX K H v (.type t) := by
  have hj : Same (join B (part H F)) H := fun a o1 e => by
    by_cases ha : a ∈ F
    · rw [join_r (o.fr a ha), part_in ha] at e; exact e
    · have : join B (part H F) a = B a := by
        unfold join; rw [part_out ha]; cases B a <;> rfl
      rw [this] at e; exact o.hi a o1 e
  have rd : Rp K none (join B (part H F)) v d := o.t.still (join_l _ _) fun p hp xs e => by rw [join_r (o.fr p hp), part_in hp]; exact e
  have kd : ∃ t, kdT d = some t := by
    cases n with
    | zero => cases h
    | succ n => cases d <;> first | exact ⟨_, rfl⟩ | cases h
  obtain ⟨t, ht⟩ := kd
  exact ⟨t, ht, tyx_of hj rd ht⟩
theorem spoil_walk (hpn : X.pn = []) {v : V} {H : Hp} {Q : VK} {E : XK} {N : Ends} (hD : ∀ σ H', Q .non H' → N.nx σ H') (h : spS X.K (n + 1) [v] H Q E) :
    tSeq (tIfS (tTst X.K (orF isLst isTup) X.pn) (tSpA X.K n) tNext) (tIfS (tKind X.K (.type "list")) (tSpB X.K) tNext) N [some v, none] H := by
  obtain ⟨v', B, d, F, e, o, hp, q⟩ := h
  cases e
  rw [hpn]
  have pin := plS_pin hp
  have kT : PySem.W.kitOne X.K (.type "list") (.type "list") = some true := kit_ty (by decide +kernel)
  rcases plS_cases hp with ⟨ds, rfl, hz, hall⟩ | ⟨ds, rfl, hz, hall⟩ | ⟨hL, hT⟩
  · obtain ⟨p, vs, F', rfl, rfl, hp0, hd⟩ := o.lst
    have nd := List.nodup_cons.mp o.nd
    refine ⟨.ref p, B, _, _, true, rfl, rfl, o, rfl, pin, fun H1 s1 => ?_⟩
    refine ⟨.ref p, rfl, p, vs, rfl, .inl (.inl (.inl (s1 _ _ hp0))), fun l hl => ⟨l, rfl, ⟨vs, .inl (.inl upd_same)⟩, ?_⟩⟩
    have s2 : Same H1 (upd H1 l (.lst vs)) := same_upd hl
    have nl : l ∉ F' := fun z => by
      obtain ⟨xs, hx⟩ := hd.lists l z
      rw [s1 _ _ hx] at hl; cases hl
    refine spoil_turns (X := X) (n := n) ((o.hi.trans s1).trans s2) upd_same nl (hd.mono (Same.refl _) fun a _ o e => s2 _ _ (s1 _ _ e)) nd.2 (fun a h => o.fr a (List.mem_cons_of_mem _ h)) hall rfl rfl fun σ' H' e0 el kp => ?_
    have kp2 : Kp (p :: F') H H' := ((Kp.of s1).trans (Kp.of s2)).trans (kp.sub fun a h => List.mem_cons_of_mem _ h)
    have hp' : H' p = some (.lst vs) := kp _ _ nd.1 (s2 _ _ (s1 _ _ hp0))
    refine ⟨.ref p, .type "list", true, e0, .base (.lst hp'), kT, ?_⟩
    refine ⟨.ref p, e0, .inl ⟨rfl, _, .inl (.inl hp')⟩, p, vs, rfl, rfl, hp', ?_⟩
    refine ⟨.ref p, e0, .inl ⟨rfl, _, .inl (.inl upd_same)⟩, p, _, _, rfl, rfl, upd_same, by rw [List.length_reverse, hd.len, sizeLine_eq]; omega, ?_⟩
    refine ⟨.ref p, e0, p, _, 0, 0, rfl, rfl, upd_same, ?_, ?_⟩
    · unfold ixN
      rw [List.length_append, List.length_singleton, if_pos (Int.le_refl 0), if_pos (by omega)]
      rfl
    · refine hD _ _ (q _ fun a o1 na e => ?_)
      have ne : a ≠ p := fun z => na (z ▸ List.mem_cons_self)
      rw [upd_ne ne, upd_ne ne, upd_ne ne]
      exact kp2 a o1 na e
  · obtain ⟨p, vs, rfl, hq, hd⟩ := o.tup
    refine ⟨.ref p, B, _, _, true, rfl, rfl, o, rfl, pin, fun H1 s1 => ?_⟩
    have hq1 := sqT_same (o.hi.trans s1) hq
    refine ⟨.ref p, rfl, p, vs, rfl, .inr hq1, fun l hl => ⟨l, rfl, ⟨vs, .inl (.inl upd_same)⟩, ?_⟩⟩
    have s2 : Same H1 (upd H1 l (.lst vs)) := same_upd hl
    have nl : l ∉ F := fun z => by
      obtain ⟨xs, hx⟩ := hd.lists l z
      rw [s1 _ _ hx] at hl; cases hl
    refine spoil_turns (X := X) (n := n) ((o.hi.trans s1).trans s2) upd_same nl (hd.mono (Same.refl _) fun a _ o e => s2 _ _ (s1 _ _ e)) o.nd o.fr hall rfl rfl fun σ' H' e0 el kp => ?_
    have kp2 : Kp F H H' := ((Kp.of s1).trans (Kp.of s2)).trans kp
    have sB : Same B H' := fun a o1 e => kp2 a o1 (fun z => by rw [o.fr a z] at e; cases e) (o.hi a o1 e)
    have kF : PySem.W.kitOne X.K (.type "tuple") (.type "list") = some false := kit_ty (by decide +kernel)
    refine ⟨.ref p, .type "tuple", false, e0, ?_, kF, hD _ _ (q _ kp2)⟩
    rcases sqT_same sB hq with (h | ⟨o, h⟩) | ⟨o, its, n, h1, h2, _⟩
    · exact .base (.tup h)
    · exact .fTuple h
    · exact .kTuple h1 h2
  · obtain ⟨t, kd, ty⟩ := ty_pl o hp
    have nx : NoExc d = true := by cases d <;> first | rfl | cases kd
    refine ⟨v, B, d, F, false, rfl, rfl, o, by unfold orF; rw [if_pos nx, hL, hT]; rfl, pin, fun H1 s1 => ?_⟩
    have o1 : Ow1 X.K B H1 v d F := ⟨o.hi.trans s1, o.t.mono (Same.refl _) fun p _ o e => s1 _ _ e, o.nd, o.fr⟩
    obtain ⟨t', kd', ty'⟩ := ty_pl o1 hp
    obtain ⟨t2, k1, k2⟩ : ∃ t, kdT d = some t ∧ PySem.W.kitOne X.K (.type t) (.type "list") = some false := by
      have := isLst_ok (K := X.K) d false hL
      cases d <;> first | exact this | cases kd
    rw [kd'] at k1; cases k1
    exact ⟨v, _, false, rfl, ty', k2, hD _ _ (q _ (Kp.of s1))⟩
end
section
variable {P : Program} {w : World} {K : PySem.W.Frag} {mg : Str → Option Value} {base : Heap} {x qual : Str} {params : Arguments} {body : List Stmt} {scope : Scope} {f : Addr} {fd : FuncData} {N ps : List Str} {k n : Nat}
theorem fdx_ok (F : FunD K x qual params body scope [] [] f fd) (S : FnScope N ps scope) (hN : N.length = 2) (hps : ps.length = 1) (hm : mg x = some (.ref f))
    (hbd : ∀ (kV doc pm : Value) (an : Option Addr) (cdv ct : Value) (us : List Value), us.length = ps.length → bindArgs (PySem.W.fnOf x qual params body scope .none kV doc pm an cdv ct) ⟨us, []⟩ = pure (ps.zip us))
    (hb : ∀ (cdv : Value) (A : Around) (outer : List Env) (s : Shared) (H : Hp) (E : XK), Room k (A.deeper (envOfC qual scope s.heap.objs.size f cdv)) →
      PSs (cxD P w K mg base N qual scope f cdv A outer s H E) body (tSeq (tIfS (tTst K (orF isLst isTup) []) (tSpA K n) tNext) (tIfS (tKind K (.type "list")) (tSpB K) tNext))) :
    FDx P w K mg base (k + 1) x (n + 1) := by
  refine ⟨f, fd, ps, hm, F.kp, ?_, F.bindsN hbd⟩
  refine F.ok S (fun vs H Q E h => ?_) (fun cdv A outer s H vs Q E hr h => ?_)
  · obtain ⟨v, B, d, F, rfl, _⟩ := h
    rw [hps]; rfl
  · refine ⟨_, hb cdv A outer s H E hr, ?_⟩
    obtain ⟨v, B, d, F, rfl, h1⟩ := id h
    have e : start N [v] = [some v, none] := by
      unfold L2.start
      rw [hN]
      rfl
    rw [e]
    exact spoil_walk (X := cxD P w K mg base N qual scope f cdv A outer s H E) rfl (fun _ _ q => q) h
theorem fdx_never (F : FunD K x qual params body scope [] [] f fd) (hm : mg x = some (.ref f))
    (hbd : ∀ (kV doc pm : Value) (an : Option Addr) (cdv ct : Value) (us : List Value), us.length = ps.length → bindArgs (PySem.W.fnOf x qual params body scope .none kV doc pm an cdv ct) ⟨us, []⟩ = pure (ps.zip us)) : FDx P w K mg base k x 0 :=
  ⟨f, fd, ps, hm, F.kp, ⟨(fun vs H Q E ⟨v, B, d, F, _, _, hp, _⟩ => by cases hp), (fun A outer s H args us vs Q E _ _ _ _ ⟨v, B, d, F, _, _, hp, _⟩ => by cases hp)⟩, F.bindsN hbd⟩
end
/-! ### the call of it -/
theorem dpr_plS {K : PySem.W.Frag} {so so' : Option Addr} {B H : Hp} : ∀ {n : Nat} {d : D} {v : V} {F : List Addr}, plS n d = true → Dpr K so B H v d F → Dpr K so' B H v d F := by
  intro n
  induction n with
  | zero => intro d v F h; cases h
  | succ n ih =>
    have all : ∀ {ds : List D} {vs : List V} {F : List Addr}, ds.all (plS n) = true → Dprs K so B H vs ds F → Dprs K so' B H vs ds F := by
      intro ds
      induction ds with
      | nil => intro vs F _ r; cases r; exact .nil
      | cons d ds ih2 =>
        intro vs F h r
        rw [List.all_cons, Bool.and_eq_true] at h
        cases r with
        | cons r1 r2 => exact .cons (ih h.1 r1) (ih2 h.2 r2)
    intro d v F h r
    cases r with
    | leaf h1 h2 => exact .leaf (plS_rp h h1) h2
    | lst hp hr =>
      have h2 : (decide (_ ≤ 100000) && _) = true := h
      rw [Bool.and_eq_true] at h2
      exact .lst hp (all h2.2 hr)
    | tup hp hr =>
      have h2 : (decide (_ ≤ 100000) && _) = true := h
      rw [Bool.and_eq_true] at h2
      exact .tup hp (all h2.2 hr)
section
variable {G : Gx} {R₁ R₂ : Roots} {v : V} {x : Sl} {H H' B : Hp}
/-- a root's lists are changed by somebody -/
theorem Rel.spoilt (h : Rel G (R₁ ++ (some v, x) :: R₂) H B) (kp : Kp x.foot H H') : Rel G (R₁ ++ (some v, .un) :: R₂) H' B := by
  have hmem : (some v, x) ∈ R₁ ++ (some v, x) :: R₂ := List.mem_append_right _ List.mem_cons_self
  have ap := fun p hp => h.ap p (mem_feet hmem hp)
  have hnd := h.nd
  rw [feet_split] at hnd
  have dis : ∀ p, p ∈ x.foot → p ∉ feet R₁ ∧ p ∉ feet R₂ := fun p hp => by
    obtain ⟨_, h2, h3⟩ := List.nodup_append.mp hnd
    obtain ⟨_, _, h4⟩ := List.nodup_append.mp h2
    exact ⟨fun z => h3 p z p (List.mem_append_left _ hp) rfl, fun z => h4 p hp p z rfl⟩
  refine ⟨h.lo, fun a o e => kp a o (fun z => by rw [(ap a z).1] at e; cases e) (h.hi a o e), fun a o e n => kp a o (fun z => by rw [(ap a z).2.1] at e; cases e) (h.fr a o e n), h.nw, fun r hr => ?_, ?_, fun p hp => ?_, fun s e => ?_⟩
  · rcases List.mem_append.mp hr with hr | hr
    · exact (h.rep r (List.mem_append_left _ hr)).mono (Same.refl _) fun p hp o e => kp p o (fun z => (dis p z).1 (mem_feet hr hp)) e
    · rcases List.mem_cons.mp hr with rfl | hr
      · trivial
      · exact (h.rep r (List.mem_append_right _ (List.mem_cons_of_mem _ hr))).mono (Same.refl _) fun p hp o e => kp p o (fun z => (dis p z).2 (mem_feet hr hp)) e
  · rw [feet_split]
    refine hnd.sublist (List.Sublist.append (List.Sublist.refl _) ?_)
    show (([] : List Addr) ++ feet R₂).Sublist _
    exact List.sublist_append_right _ _
  · rw [feet_split] at hp
    refine h.ap p ?_
    rw [feet_split]
    rcases List.mem_append.mp hp with q | q
    · exact List.mem_append_left _ q
    · exact List.mem_append_right _ (List.mem_append_right _ (by simpa [Sl.foot] using q))
  · obtain ⟨s1, s2⟩ := h.st s e
    obtain ⟨ys, hy⟩ := h.store_some e
    exact ⟨s1, s2.mono (Same.refl _) ((kp s _ (fun z => (ap s z).2.2 e) hy).trans hy.symm)⟩
theorem Rel.ow1 {n : Nat} (h : Rel G (R₁ ++ (some v, x) :: R₂) H B) (o : okO x = true) (hp : plS n x.dat = true) : Ow1 G.K B H v x.dat x.foot := by
  have hmem : (some v, x) ∈ R₁ ++ (some v, x) :: R₂ := List.mem_append_right _ List.mem_cons_self
  have hnd := h.nd
  rw [feet_split] at hnd
  obtain ⟨_, h2, _⟩ := List.nodup_append.mp hnd
  exact ⟨h.hi, dpr_plS hp (okO_dpr (h.rep _ hmem) o), (List.nodup_append.mp h2).1, fun p hp => (h.ap p (mem_feet hmem hp)).1⟩
end
/-- f(x), a name's value spoilt -/
def wSpoilV (n i : Nat) : DS := fun N ρ _ => ∃ x, ρ[i]? = some x ∧ okO x = true ∧ plS n x.dat = true ∧ N.nx (ρ.set i .un)
/-- f(e) -/
def wSpoilE (n : Nat) (we : DT Sl) : DS := fun N ρ E => we ρ (fun x ρ1 => okO x = true ∧ plS n x.dat = true ∧ N.nx ρ1) E
theorem wSpoilV_mono {n i : Nat} : MonoS (wSpoilV n i) := fun _ _ _ _ _ ⟨x, h1, h2, h3, h4⟩ hd _ => ⟨x, h1, h2, h3, hd.nx _ h4⟩
theorem wSpoilE_mono {n : Nat} {we : DT Sl} (hm : Mono we) : MonoS (wSpoilE n we) := fun _ _ _ _ _ h hd he => hm (fun _ _ k => ⟨k.1, k.2.1, hd.nx _ k.2.2⟩) he h
section
variable {G : Gx} {X : Cx} {x nm : Str} {k n : Nat} {p q pos spos : Pos} {e : Expr} {we : DT Sl}
theorem ds_spoilV (i : Nat) (F : FDx X.prog X.w X.K X.mg X.base k x n) (hr : Room k X.A) (hK : G.K = X.K) (hN : X.N[i]? = some nm := by rfl) (hv : Vis X.env.scope nm := by first | exact Or.inl rfl | exact Or.inr (Or.inl rfl) | exact Or.inr (Or.inr rfl)) (hd : (nm == ("__debug__" : Str)) = false := by decide) (hcd : (nm == ("__classdict__" : Str)) = false := by decide)
    (hg : Gl X x := by rfl) (hdb : (x == ("__debug__" : Str)) = false := by decide) (he : starEach [.Name nm q] X.env = (false, eval (.Name nm q) X.env) :: starEach [] X.env := by rfl) (hpl : (backTo pos (starEach [] X.env)).any (·.1) = false := by rfl)
    (hs : swapsWith (.Call (.Name x p) [.Name nm q] [] pos) none spos.line X.env = pure false := by rfl) : DSt G X (.Expr (.Call (.Name x p) [.Name nm q] [] pos) spos) (wSpoilV n i) := by
  obtain ⟨f, fd, ps, hm, hk, hF, hB⟩ := F
  refine ⟨wSpoilV_mono, ps_weak (ps_expr (pe_callS (E := fun _ => fun _ _ _ => False) hF hr hg hm hk hB (fun σ => L2N.passAt (takes_no (X := X)) σ) (pa_cons (pe_var hN hv hd hcd) pa_nil he) hdb he hpl) hs) fun D σ H h => ?_⟩
  obtain ⟨ρ, τ, ⟨l, B, hr0⟩, y, h1, h2, h3, h4⟩ := h
  obtain ⟨L, R, v, e1, e2, e3⟩ := zip_split l h1
  rw [e2, List.append_assoc, List.cons_append] at hr0
  cases v with
  | none =>
    have z := hr0.rep (none, y) (by simp)
    cases y with
    | un => cases h2
    | _ => exact z.elim
  | some v =>
    refine ⟨v, e1, ?_⟩
    show spS X.K n [v] H (fun x H1 => D.nx σ H1) (fun _ _ _ => False)
    rw [← hK]
    refine ⟨v, B, y.dat, y.foot, rfl, hr0.ow1 h2 h3, h3, fun H' kp => ?_⟩
    refine h4 (by rw [List.length_set]) σ H' ⟨by rw [List.length_set]; exact l, B, ?_⟩
    rw [e3, List.append_assoc, List.cons_append]
    exact hr0.spoilt kp
theorem ds_spoilE (F : FDx X.prog X.w X.K X.mg X.base k x n) (hr : Room k X.A) (hK : G.K = X.K) (ha : DE G X e we)
    (hg : Gl X x := by rfl) (hdb : (x == ("__debug__" : Str)) = false := by decide) (he : starEach [e] X.env = (false, eval e X.env) :: starEach [] X.env := by rfl) (hpl : (backTo pos (starEach [] X.env)).any (·.1) = false := by rfl)
    (hs : swapsWith (.Call (.Name x p) [e] [] pos) none spos.line X.env = pure false := by rfl) : DSt G X (.Expr (.Call (.Name x p) [e] [] pos) spos) (wSpoilE n we) := by
  obtain ⟨f, fd, ps, hm, hk, hF, hB⟩ := F
  refine ⟨wSpoilE_mono ha.mono, ps_weak (ps_expr (pe_callS (E := fun _ => fun _ _ _ => False) hF hr hg hm hk hB (fun σ => L2N.passAt (takes_no (X := X)) σ) (pa_cons ha.pe pa_nil he) hdb he hpl) hs) fun D σ H h => ?_⟩
  obtain ⟨ρ, τ, hA, hw⟩ := h
  refine ⟨ρ, τ, hA, ha.mono (fun y ρ1 k ny l v H1 A1 => ?_) (fun _ _ e => e) hw⟩
  obtain ⟨B, hr0⟩ := A1.rel
  rw [← List.append_assoc] at hr0
  show spS X.K n [v] H1 (fun x H1 => D.nx σ H1) (fun _ _ _ => False)
  rw [← hK]
  refine ⟨v, B, y.dat, y.foot, rfl, Rel.ow1 (R₂ := []) hr0 k.1 k.2.1, k.2.1, fun H' kp => ?_⟩
  refine k.2.2 l σ H' ⟨A1.len, B, (Rel.spoilt (R₂ := []) hr0 kp).sublist (List.sublist_append_left _ _)⟩
end
end DL
set_option Elab.async false
set_option maxRecDepth 100000
set_option maxHeartbeats 4000000
set_option linter.unusedVariables false
/-! data-level layer, part Mf: sum and [::-1] of tuples, methods without arguments and by names, values moved, isinstance of an own class -/
namespace DL
open PySem PySem.Spec PyProof.Rows L2 NdefX
/-! ### sum of a tuple -/
def rSumT (K : PySem.W.Frag) : List V → Hp → VK → Prop := fun vs H Q => ∃ (a : Addr) (ns : List Int), vs = [V.ref a] ∧ SqT K H a (ns.map V.int) ∧ Q (.int ns.sum) H
theorem cr_sumT {X : Cx} (hc : X.calm = true) : CallR X (.builtin "sum") (rSumT X.K) := by
  intro pins s σ H vs us Q I r h
  obtain ⟨a, ns, rfl, hs, q⟩ := h
  obtain ⟨its, rv, ht, _⟩ := I.tuple hs
  rw [Vals.ref1 r]
  have hi := rv.ints
  obtain ⟨xs, e⟩ := hi.allInts.items
  have hn : numsOf (intItems xs).toList = ns := by rw [← e]; exact hi.numsOf
  rw [nums_intItems] at hn
  have ht2 : s.heap.IsTuple a (intItems xs) := e ▸ (show s.heap.IsTuple a its.toArray from ht)
  refine PySem.W.ktm_sumG (I.ok.hd hc) ht2 fun h' tk t' hk => ?_
  rw [preSum_eq, List.take_of_length_le (by simp), hn]
  exact ⟨.int _, H, I.kept hk, ⟨_, rfl⟩, q⟩
def pSumT : List D → Prop
  | [.tup ds] => ∃ ns : List Int, ds = ns.map D.int
  | _ => False
def fSumT : List D → D
  | [.tup ds] => .int (ds.map intOf).sum
  | _ => .non
theorem opa_sumT {G : Gx} : OpA G (rSumT G.K) (roF pSumT fSumT) := opa_F fun so vs ds H B Q e hv hp k => by
  unfold pSumT at hp
  split at hp
  · rename_i ds
    obtain ⟨ns, rfl⟩ := hp
    have k2 := k (.int ns.sum) (by
      have : fSumT [.tup (ns.map D.int)] = .int ns.sum := by show D.int _ = _; rw [map_intOf]
      rw [this]; exact .int _)
    cases hv with
    | cons h1 h2 =>
      cases h2
      cases h1 with
      | tup hs hr =>
        have := hr.ints_of
        subst this
        exact ⟨_, ns, rfl, sqT_same e hs, k2⟩
  · exact hp.elim
abbrev wSumT := wFun (roF pSumT fSumT)
section
variable {G : Gx} {X : Cx} {a : Expr} {wr : DT (List Sl)} {p pos : Pos}
theorem de_sumT (hc : X.calm = true) (hK : G.K = X.K) (hm : X.mg "sum" = none) (ha : DA G X [a] wr) (hg : Gl X "sum" := by rfl) (he : starEach [a] X.env = (false, eval a X.env) :: starEach [] X.env := by rfl) : DE G X (.Call (.Name "sum" p) [a] [] pos) (wSumT wr) := de_callB (cr_sumT hc) (hK ▸ opa_sumT) roF_mono hg hm (by decide +kernel) ha (he := he)
end
/-! ### t[::-1] -/
section
variable {prog : Program} {w : World} {A : Around} {E : Value → Shared → Prop} {s : Shared}
theorem rev_adjust (n : Nat) : Builtin.Slice.sliceAdjust none none (-1) (n : Int) = ((n : Int) - 1, -1) := by
  unfold Builtin.Slice.sliceAdjust
  simp
theorem rev_places (n : Nat) : Builtin.Slice.slicePlaces ((n : Int) - 1) (-1) (-1) = n := by
  unfold Builtin.Slice.slicePlaces
  rw [if_neg (by decide)]
  by_cases h : (n : Int) - 1 > -1
  · rw [if_pos h, show (- -1 : Int) = 1 from rfl, Int.ediv_one]; omega
  · rw [if_neg h]; omega
theorem rev_items (xs : Array Value) : ((List.range xs.size).filterMap fun (k : Nat) => xs[((xs.size : Int) - 1 + (k : Int) * (-1)).toNat]?).toArray = xs.toList.reverse.toArray := by
  have e1 : (List.range xs.size).filterMap (fun (k : Nat) => xs[((xs.size : Int) - 1 + (k : Int) * (-1)).toNat]?) = xs.toList.reverse := by
    have h1 : ∀ k ∈ List.range xs.size, xs[((xs.size : Int) - 1 + (k : Int) * (-1)).toNat]? = xs.toList.reverse[k]? := fun k hk => by
      have hk2 := List.mem_range.mp hk
      have e : ((xs.size : Int) - 1 + (k : Int) * (-1)).toNat = xs.size - 1 - k := by omega
      rw [e, List.getElem?_reverse (by rw [Array.length_toList]; exact hk2), Array.length_toList, Array.getElem?_toList]
    have h2 : (List.range xs.size).filterMap (fun (k : Nat) => xs[((xs.size : Int) - 1 + (k : Int) * (-1)).toNat]?) = (List.range xs.toList.reverse.length).filterMap fun k => xs.toList.reverse[k]? := by
      rw [List.length_reverse, Array.length_toList]
      have fc : ∀ (l : List Nat), (∀ k ∈ l, xs[((xs.size : Int) - 1 + (k : Int) * (-1)).toNat]? = xs.toList.reverse[k]?) → l.filterMap (fun (k : Nat) => xs[((xs.size : Int) - 1 + (k : Int) * (-1)).toNat]?) = l.filterMap fun k => xs.toList.reverse[k]? := by
        intro l
        induction l with
        | nil => intro _; rfl
        | cons a l ih => intro h; rw [List.filterMap_cons, List.filterMap_cons, h a List.mem_cons_self, ih fun k hk => h k (List.mem_cons_of_mem _ hk)]
      exact fc _ h1
    rw [h2]
    generalize xs.toList.reverse = l
    induction l with
    | nil => rfl
    | cons a l ih =>
      rw [List.length_cons, List.range_succ_eq_map, List.filterMap_cons, List.filterMap_map]
      show a :: _ = _
      congr 1
  rw [e1]
theorem get_rev {t sl : Addr} {items : Array Value} {vs : Value} {Q : Value → Shared → Prop} (ht : IsTup s.heap t items) (hs : s.heap.IsSliceOf sl .none .none vs) (ps : IsPart vs (some (-1)))
    (h : Q (.ref s.heap.objs.size) { s with heap := s.heap.push { cls := .type "tuple", data := .seq items.toList.reverse.toArray } }) (hz : items.size ≤ sizeLine) : wpAny (model prog w) A (getItem (.ref t) (.ref sl)) Q E s := by
  obtain ⟨os, hos, hcs, hds⟩ := id hs
  have hTs : s.TypeIs (.ref sl) "slice" := ⟨os, hos, hcs⟩
  have hsz : sizeOk (.seq items.toList.reverse.toArray) := by
    show items.toList.reverse.toArray.size ≤ sizeLine
    rw [List.size_toArray, List.length_reverse, Array.length_toList]; exact hz
  unfold getItem
  refine wpAny_holding (wpAny_bind (wpAny_sequenceKey ht.typeIs (by decide) ?_))
  refine wpAny_bind (wpAny_callSpecial?_slot (name := Str.ofString "__getitem__") ht.typeIs PyProof.Rows.slot_tuple_getitem (wpAny_call_entry PyProof.Rows.slot_tuple_getitem ht.typeIs PyProof.Rows.entry_tuple_getitem ?_ (PyProof.Rows.args_tuple_getitem _ _)))
  show wpAny _ _ (Builtin.Tuple.tupleItemsOf (.ref t) >>= _) _ _ s
  refine wpAny_bind (PyProof.Rows.tupleItemsOf_ ht ?_)
  refine wpAny_bind (wpAny_typeOf hTs ?_)
  rw [if_pos (by decide)]
  refine wpAny_bind (wpAny_mono (Q := fun r s' => r = ((items.size : Int) - 1, (-1 : Int), items.size) ∧ s' = s) ?_ (fun r s' q => ?_) fun _ _ e => e)
  · unfold Builtin.Slice.sliceApplied Builtin.Slice.sliceFields
    refine wpAny_bind (wpAny_bind (wpAny_field hos hds (x := .none) rfl (wpAny_bind (wpAny_field hos hds (x := .none) rfl (wpAny_bind (wpAny_field hos hds (x := vs) rfl (wpAny_pure ?_)))))))
    refine wpAny_bind (HT.slicePart_ ps ?_)
    show wpAny _ _ (if ((-1 : Int) == 0) = true then _ else _) _ _ s
    rw [if_neg (by decide)]
    refine wpAny_bind (HT.slicePart_ .none (wpAny_bind (HT.slicePart_ .none (wpAny_bind (wpAny_pure ?_)))))
    show wpAny _ _ (match Builtin.Slice.sliceAdjust none none (-1) (items.size : Int) with | (lo, hi) => pure (lo, (-1 : Int), Builtin.Slice.slicePlaces lo hi (-1))) _ _ s
    rw [rev_adjust]
    show wpAny _ _ (pure ((items.size : Int) - 1, (-1 : Int), Builtin.Slice.slicePlaces ((items.size : Int) - 1) (-1) (-1))) _ _ s
    rw [rev_places]
    exact wpAny_pure ⟨rfl, rfl⟩
  · obtain ⟨rfl, rfl⟩ := q
    have hno : ¬ (((items.size : Int) - 1 == 0 && (-1 : Int) == 1 && items.size == items.size) = true) := by simp
    show wpAny _ _ (if ((items.size : Int) - 1 == 0 && (-1 : Int) == 1 && items.size == items.size) = true then _ else _) _ _ _
    rw [if_neg hno, rev_items]
    first
      | exact wpAny_bind (m := Builtin.Tuple.tupleExact _) (wpAny_newObj_type (wpAny_pure ⟨_, rfl, wpAny_pure h⟩) hsz)
      | exact wpAny_bind (m := Builtin.Tuple.tupleExact _) (wpAny_newObj_type (wpAny_bind (wpAny_pure (wpAny_pure ⟨_, rfl, wpAny_pure h⟩))) hsz)
      | exact wpAny_bind (wpAny_bind (m := Builtin.Tuple.tupleExact _) (wpAny_newObj_type (wpAny_pure (wpAny_pure ⟨_, rfl, wpAny_pure h⟩)) hsz))
      | exact wpAny_bind (wpAny_bind (m := Builtin.Tuple.tupleExact _) (wpAny_newObj_type (wpAny_pure ⟨_, rfl, wpAny_pure h⟩) hsz))
end
def tRevT (K : PySem.W.Frag) (te : TE) : TE := fun σ H Q => te σ H fun x H1 => ∃ a xs, x = .ref a ∧ SqT K H1 a xs ∧ ∀ p, H1 p = none → Q (.ref p) (upd H1 p (.tup xs.reverse))
theorem pe_revT {X : Cx} {e : Expr} {te : TE} {k : Nat} {p1 p2 p3 pos : Pos} (he : PE X e te) : PE X (.Subscript e (.Slice none none (some (.UnaryOp .USub (.Constant (.int 1) k p1) p2)) p3) pos) (tRevT X.K te) := by
  refine ⟨fun pins s σ H Q I h => ?_⟩
  refine Subscript_ (thn (he.run pins s σ H _ I h) fun v s1 ⟨x, H1, I1, r1, q1⟩ => ?_)
  obtain ⟨a, xs, ex, hx, q⟩ := q1
  subst ex
  cases (show v = Value.ref a from r1)
  have third : PO X (some (.UnaryOp .USub (.Constant (.int 1) k p1) p2)) (tPart (tUn (rU fun i => .int (-i)) (tC (.int 1)))) := po_some (pe_un un_neg pe_int)
  refine wpAny_Slice (thn (po_none.run pins s1 σ H1 (fun o H2 => o = none ∧ H2 = H1) I1 ⟨rfl, rfl⟩) fun vl s2 z1 => ?_)
  obtain ⟨l, H2, I2, pl, rfl, rfl⟩ := z1
  cases pl
  refine thn (po_none.run pins s2 σ H2 (fun o H3 => o = none ∧ H3 = H2) I2 ⟨rfl, rfl⟩) fun vu s3 z2 => ?_
  obtain ⟨u, H3, I3, pu, rfl, rfl⟩ := z2
  cases pu
  refine thn (third.run pins s3 σ H3 (fun o H4 => o = some (-1) ∧ H4 = H3) I3 ⟨1, rfl, -1, rfl, rfl, rfl⟩) fun vs s4 z3 => ?_
  obtain ⟨o, H4, I4, ps, rfl, rfl⟩ := z3
  have I5 : Inv X pins σ H4 { s4 with heap := s4.heap.push { cls := .type "slice", data := .fields #[.none, .none, vs] } } := I4.kept (t' := s4.toks) fun b ob q => Heap.get?_push_of_some _ q
  obtain ⟨its, r, ht, hz⟩ := I5.tuple hx
  have hl := r.length
  show wpAny (model X.prog X.w) X.A (subscriptTail e (.Slice none none (some (.UnaryOp .USub (.Constant (.int 1) k p1) p2)) p3) (.ref a) (.ref s4.heap.objs.size)) (EP X pins σ Q) X.xe _
  refine tail_any (ops := [.ref a, .ref s4.heap.objs.size]) ht.typeIs PyProof.Rows.slot_tuple_getitem.lookup ?_ (by with_unfolding_all rfl)
  refine get_rev ht (Heap.IsSliceOf.new _ .none .none vs) ps ?_ (by rw [List.size_toArray]; omega)
  refine ⟨.ref _, _, I5.laid (t' := s4.toks) (o := .tup xs.reverse) (fun b ob q => Heap.get?_push_of_some _ q) (Nat.le_refl _) ?_, rfl, q _ (I5.hok.fresh (Nat.le_refl _))⟩
  exact ⟨by rw [List.length_reverse]; omega, its.reverse, r.reverse, IsTup.new _ _⟩
def wRevT (wa : DT Sl) : DT Sl := fun ρ Q E => wa ρ (fun x ρ1 => match x.dat with
  | .tup ds => Q (.sh (.tup ds.reverse)) ρ1
  | _ => False) E
theorem wRevT_mono {wa : DT Sl} (h : Mono wa) : Mono (wRevT wa) := fun _ _ _ _ _ hq he q => h (fun x ρ1 k => by
  split at k
  · exact hq _ _ k
  · exact k.elim) he q
theorem de_revT {G : Gx} {X : Cx} {e : Expr} {we : DT Sl} {k : Nat} {p1 p2 p3 pos : Pos} (hK : G.K = X.K) (he : DE G X e we) : DE G X (.Subscript e (.Slice none none (some (.UnaryOp .USub (.Constant (.int 1) k p1) p2)) p3) pos) (wRevT we) := by
  refine ⟨wRevT_mono he.mono, pe_weak (pe_revT he.pe) fun σ H Q h => ?_⟩
  obtain ⟨ρ, τ, hA, hw⟩ := h
  refine ⟨ρ, τ, hA, he.mono (fun x ρ1 k nx l v H1 A1 => ?_) (fun _ _ e => e) hw⟩
  obtain ⟨B, h1, h2⟩ := A1.still nx
  split at k
  · rename_i ds ex
    rw [ex] at h1
    cases h1 with
    | @tup a vs _ hs hr => exact ⟨a, vs, rfl, hK ▸ sqT_same h2.hi hs, fun p hp => k (fun z => by cases z) l _ _ (At.addNew A1.len h2 hp fun B' e1 e2 => .tup (.inl (.inl e2)) (hr.reverse.mono e1))⟩
  · exact k.elim
/-! ### methods -/
section
variable {G : Gx} {X : Cx} {o : Expr} {wo : DT Sl} {m c : Str} {pos apos : Pos} {k n : Nat} {W : DW1} {pl : Sem Bool}
/-- o.m() -/
theorem de_meth0 (F : FDm X.prog X.w X.K X.mg X.base k c m 1 W) (hr : Room k X.A) (hK : G.K = X.K) (tk : L2N.Takes X fun cls d σ H => G.EX σ cls d H) (hE : ∀ σ σ' : St, G.EX σ = G.EX σ') (ho : DE G X o wo)
    (ht : eval (.Call (.Attribute o m apos) [] [] pos) X.env = (do
      let ov ← eval o X.env
      standAt apos.atName
      let (f, first) ← holding [ov] (getMethod ov m pl)
      callWith pos f first (backTo pos (starEach [] X.env)) (backToKw pos (keywordEach [] X.env))) := by rfl) :
    DE G X (.Call (.Attribute o m apos) [] [] pos) (wMeth c m W wo wNil) := by
  obtain ⟨hW, f, fd, ps, hC, hM, hF, hB⟩ := F
  have tk' : L2N.Takes X fun cls d _ H => G.EX [] cls d H := tk.imp fun c d σ H h => by rw [hE σ []]; exact h
  refine ⟨wMeth_mono hW ho.mono (fun _ _ _ _ _ hq _ h => hq _ _ h), pe_weak (pe_meth0 (E := G.EX []) (dvs := []) ho.pe hC hM hF hr hB .nil (L2N.passes_call tk' fun _ _ _ _ h => h) ht) fun σ H Q h => ?_⟩
  obtain ⟨ρ, τ, hA, hw⟩ := h
  refine ⟨ρ, τ, hA, ho.mono (fun x ρ1 k nx l v H1 A1 => ?_) (fun _ _ e => e) hw⟩
  obtain ⟨B, h1, h2⟩ := A1.still nx
  split at k
  · rename_i c' fs ds ex
    obtain ⟨rfl, k1, k2⟩ := k
    rw [ex] at h1
    have h0 := h1
    cases h1 with
    | ins hp hl hv =>
      refine ⟨_, _, _, rfl, by rw [← hK]; exact h2.hi _ _ hp, Rps.look_none k1, ?_⟩
      have key := call_ends (Q := Q) (n := 1) hW A1.len rfl h2 (Rps.cons h0 .nil) (hW (fun zz q nz v H' A' => q nz l v H' A') (fun e q => q) k2)
      rw [← hK, hE [] σ]
      exact key
  · exact k.elim
/-- a method called by names -/
structure FDmK (P : Program) (w : World) (K : PySem.W.Frag) (mg : Str → Option Value) (base : Heap) (k : Nat) (c m : Str) (n : Nat) (ks : List Str) (W : DW1) : Prop where
  mono : MonoW W
  ex : ∃ (f : Addr) (fd : FuncData) (ps : List Str), Cls K (He.ga K c) ∧ Meth K (He.ga K c) m f ∧ FnOk P w K mg base (L2N.CX P w) k f fd ps (spD K n W) ∧
    ∀ (s : Shared) (u : Value) (ws : List Value), K.In s.heap → ws.length = ks.length → BindsTo s fd ⟨[u], ks.zip ws⟩ (ps.zip (u :: ws))
/-- o.m(k = v, ..), the names in the parameters' order -/
theorem de_methK {kws : List Keyword} {ks : List Str} {wr : DT (List Sl)} (F : FDmK X.prog X.w X.K X.mg X.base k c m n ks W) (hr : Room k X.A) (hK : G.K = X.K) (tk : L2N.Takes X fun cls d σ H => G.EX σ cls d H) (hE : ∀ σ σ' : St, G.EX σ = G.EX σ') (ho : DE G X o wo) (ha : DKw G X kws wr) (hn : kws.length + 1 = n := by rfl)
    (hall : (backToKw pos (keywordEach kws X.env)).all (·.1.isSome) = true := by rfl) (hks : (backToKw pos (keywordEach kws X.env)).filterMap (·.1) = ks := by rfl) (hkl : ks.length = kws.length := by rfl)
    (hpl : ((backTo pos (starEach [] X.env)).any (·.1) || (backToKw pos (keywordEach kws X.env)).any (·.1.isNone)) = false := by rfl)
    (ht : eval (.Call (.Attribute o m apos) [] kws pos) X.env = (do
      let ov ← eval o X.env
      standAt apos.atName
      let (f, first) ← holding [ov] (getMethod ov m pl)
      callWith pos f first (backTo pos (starEach [] X.env)) (backToKw pos (keywordEach kws X.env))) := by rfl) :
    DE G X (.Call (.Attribute o m apos) [] kws pos) (wMeth c m W wo wr) := by
  obtain ⟨hW, f, fd, ps, hC, hM, hF, hB⟩ := F
  obtain ⟨t, htk, hq⟩ := ha.pk
  refine ⟨wMeth_mono hW ho.mono ha.mono, ⟨fun pins s σ H Q I h => ?_⟩⟩
  obtain ⟨ρ, τ, hA, hw⟩ := h
  refine PySem.W.methodCall_KW (pl := pl) (thn (ho.pe.run pins s σ H (fun x H1 => ∃ a dx fs, x = .ref a ∧ H1 a = some (.ins (He.ga X.K c) dx fs) ∧ fs.lookup m = none ∧ t σ H1 fun vs H2 => spD G.K n W (x :: vs) H2 Q (G.EX σ) ∧ vs.length = kws.length) I ⟨ρ, τ, hA, ho.mono (fun x ρ1 k nx l v H1 A1 => ?_) (fun _ _ e => e) hw⟩) fun u s1 z => ?_) ht
  · obtain ⟨B, h1, h2⟩ := A1.still nx
    split at k
    · rename_i c' fs ds ex
      obtain ⟨rfl, k1, k2⟩ := k
      rw [ex] at h1
      have h0 := h1
      cases h1 with
      | ins hp hl hv =>
        refine ⟨_, _, _, rfl, by rw [← hK]; exact h2.hi _ _ hp, Rps.look_none k1, ?_⟩
        refine hq σ H1 _ ⟨ρ1, _, ⟨A1.len, B, by rw [← List.append_assoc]; exact h2.addSh h0⟩, ha.mono (fun xs ρ2 k nxs ln l2 vs H2 lv A2 => ?_) xw_app k2⟩
        obtain ⟨B2, g1, g2⟩ := A2.stills lv nxs
        have z := g2.rep _ (List.mem_append_right _ (List.mem_append_right _ List.mem_cons_self))
        refine ⟨?_, by rw [lv, ln]⟩
        exact call_ends (Q := Q) (n := n) hW A2.len (show (D.ins c' fs ds :: datas xs).length = n by rw [List.length_cons]; unfold datas; rw [List.length_map, ln]; exact hn) g2 (Rps.cons z g1) (hW (fun zz q nz v H' A' => q nz (l2.trans l) v H' (by
          obtain ⟨B3, r3⟩ := A'.rel
          exact ⟨A'.len, B3, r3.sublist (by
            refine List.Sublist.append (List.Sublist.refl _) ?_
            rw [List.append_assoc]
            exact List.Sublist.append (List.Sublist.refl _) (List.sublist_append_right _ _))⟩)) (fun e q => xw_app e ρ2 q) k)
    · exact k.elim
  · obtain ⟨x, H1, I1, rx, a, dx, fs, rfl, ea, lk, tq⟩ := z
    cases (show u = Value.ref a from rx)
    refine getmeth_ok I1 ea hC hM lk ?_
    refine PySem.W.callWith_KW0 (h₀ := X.base) I1.ok.mod.kin hM.kp hall (thn (htk.run pos pins s1 σ H1 _ I1 tq) fun ws s2 z => ?_) hpl
    obtain ⟨zs, H2, I2, rz, q2, lz⟩ := z
    refine ⟨I2.kIn, ?_⟩
    rw [hks]
    rw [hK] at q2
    have hl : ws.length = ks.length := by rw [hkl, ← lz, rz.length]
    refine wpAny_call (codeAny_mono (hF.run X.A X.stack s2 H2 ⟨[.ref a], ks.zip ws⟩ (.ref a :: ws) (.ref a :: zs) Q (G.EX σ) hr I2.env0 (hB s2 (.ref a) ws I2.kIn hl) (.cons rv_ref rz) q2) fun r s' hq' => ?_)
    cases r with
    | error e => exact L2N.passAt tk σ pins H2 s2 e s' I2 hq'
    | ok fl => cases fl with
      | ret u => exact I2.after hq'
      | next => exact hq'.elim
      | brk => exact hq'.elim
      | cont => exact hq'.elim
end
/-! ### a name's value is moved out -/
def wMv (i : Nat) : DT Sl := fun ρ Q _ => match ρ[i]? with
  | some .un => False
  | none => False
  | some x => Q x (ρ.set i .un)
theorem wMv_mono {i : Nat} : Mono (wMv i) := fun ρ _ _ _ _ hq _ h => by
  unfold wMv at h ⊢
  split at h
  · exact h.elim
  · exact h.elim
  · exact hq _ _ h
section
variable {G : Gx} {X : Cx} {pos : Pos}
theorem de_mv (i : Nat) {x : Str} (hN : X.N[i]? = some x := by rfl) (hv : Vis X.env.scope x := by first | exact Or.inl rfl | exact Or.inr (Or.inl rfl) | exact Or.inr (Or.inr rfl)) (hd : (x == ("__debug__" : Str)) = false := by decide)
    (hcd : (x == ("__classdict__" : Str)) = false := by decide) : DE G X (.Name x pos) (wMv i) := by
  refine ⟨wMv_mono, pe_weak (pe_var hN hv hd hcd) fun σ H Q hw => ?_⟩
  obtain ⟨ρ, τ, hA, hw⟩ := hw
  unfold wMv at hw
  split at hw
  · exact hw.elim
  · exact hw.elim
  · rename_i y hne e
    obtain ⟨L, R, v, h1, h2, h3⟩ := zip_split hA.len e
    obtain ⟨B, hr⟩ := hA.rel
    rw [h2, List.append_assoc, List.cons_append] at hr
    cases v with
    | none =>
      have q := hr.rep (none, y) (by simp)
      cases y with
      | un => exact (hne rfl).elim
      | _ => exact q.elim
    | some v =>
      refine ⟨v, h1, hw (fun z => hne (z ▸ rfl)) (by rw [List.length_set]) v H ⟨by rw [List.length_set]; exact hA.len, B, ?_⟩⟩
      rw [h3, List.append_assoc, List.cons_append]
      have f2 : feet (L ++ (some v, .un) :: (R ++ (τ ++ [(some v, y)]))) = feet L ++ (feet R ++ (feet τ ++ y.foot)) := by
        rw [feet_split, feet_append, feet_append, feet_one]
        show feet L ++ ([] ++ _) = _
        rw [List.nil_append]
      have f1 : feet (L ++ (some v, y) :: (R ++ τ)) = feet L ++ (y.foot ++ (feet R ++ feet τ)) := by rw [feet_split, feet_append]
      have pm : (feet (L ++ (some v, .un) :: (R ++ (τ ++ [(some v, y)])))).Perm (feet (L ++ (some v, y) :: (R ++ τ))) := by
        rw [f1, f2]
        refine List.Perm.append_left _ ?_
        have p1 : (y.foot ++ (feet R ++ feet τ)).Perm ((feet R ++ feet τ) ++ y.foot) := List.perm_append_comm
        rw [List.append_assoc] at p1
        exact p1.symm
      refine ⟨hr.lo, hr.hi, hr.fr, hr.nw, fun r hm => ?_, pm.nodup_iff.mpr hr.nd, fun p hp => hr.ap p (pm.mem_iff.mp hp), hr.st⟩
      rcases List.mem_append.mp hm with hm | hm
      · exact hr.rep r (List.mem_append_left _ hm)
      · rcases List.mem_cons.mp hm with rfl | hm
        · trivial
        · rcases List.mem_append.mp hm with hm | hm
          · exact hr.rep r (List.mem_append_right _ (List.mem_cons_of_mem _ (List.mem_append_left _ hm)))
          · rcases List.mem_append.mp hm with hm | hm
            · exact hr.rep r (List.mem_append_right _ (List.mem_cons_of_mem _ (List.mem_append_right _ hm)))
            · have e : r = (some v, y) := by simpa using hm
              subst e
              exact hr.rep _ (by simp)
end
/-! ### isinstance(x, C), C an own class -/
structure OwnK (K : PySem.W.Frag) (mg : Str → Option Value) (c : Str) : Prop where
  mg : mg c = some (.ref (He.ga K c))
  ink : InK K (He.ga K c)
  self : PySem.W.kitOne K (.ref (He.ga K c)) (.ref (He.ga K c)) = some true
  tys : ∀ t ∈ ["NoneType", "bool", "int", "str", "list", "tuple", "dict"], PySem.W.kitOne K (.type t) (.ref (He.ga K c)) = some false
  own : ∀ t ∈ ["bool", "int", "str", "list", "tuple"], PySem.W.kitOne K (.ref (He.ga K c)) (.type t) = some false
def isOwn (c : Str) : D → Option Bool
  | .ins c' _ _ => if c' = c then some true else none
  | .non => some false | .bl _ => some false | .int _ => some false | .str _ => some false | .lst _ => some false | .tup _ => some false | .dic _ _ => some false
  | _ => none
theorem OwnK.is {K : PySem.W.Frag} {mg : Str → Option Value} {c : Str} (o : OwnK K mg c) : ∀ d b, isOwn c d = some b → Isi K d (.ref (He.ga K c)) b := by
  intro d b h
  cases d with
  | ins c' fs ds =>
    have h2 : (if c' = c then some true else none) = some b := h
    by_cases e : c' = c
    · rw [if_pos e] at h2; cases h2; rw [e]; exact ⟨o.ink, o.self⟩
    · rw [if_neg e] at h2; cases h2
  | non => cases h; exact ⟨_, rfl, o.tys _ (by decide)⟩
  | bl _ => cases h; exact ⟨_, rfl, o.tys _ (by decide)⟩
  | int _ => cases h; exact ⟨_, rfl, o.tys _ (by decide)⟩
  | str _ => cases h; exact ⟨_, rfl, o.tys _ (by decide)⟩
  | lst _ => cases h; exact ⟨_, rfl, o.tys _ (by decide)⟩
  | tup _ => cases h; exact ⟨_, rfl, o.tys _ (by decide)⟩
  | dic _ _ => cases h; exact ⟨_, rfl, o.tys _ (by decide)⟩
  | _ => cases h
end DL
set_option Elab.async false
set_option maxRecDepth 100000
set_option maxHeartbeats 4000000
set_option linter.unusedVariables false
/-! data-level layer, part Mg: own classes: what the top leaves, promises of their members -/
namespace DL
open PySem PySem.Spec PyProof.Rows L2 NdefX He
/-- where a property's getter stands -/
def gAd (K : PySem.W.Frag) (c f : Str) : Addr := match PySem.W.recIn K (ma K (ga K c) f) "property" with
  | some (.ref g :: _) => g
  | _ => 0
/-- a member of a class: a method, a property's getter -/
structure MemD where
  c : Str
  f : Str
  get : Bool
  name : Str
  qual : Str
  params : Arguments
  body : List Stmt
  scope : Scope
  kwd : List (Str × Dv)
def MemD.kws (K : PySem.W.Frag) (m : MemD) : List (Str × V) := m.kwd.map fun q => (q.1, q.2.v K)
def MemD.ad (K : PySem.W.Frag) (m : MemD) : Addr := if m.get = true then gAd K m.c m.f else ma K (ga K m.c) m.f
def fnVa (K : PySem.W.Frag) (a : Addr) : FnV := match K.lookup a with
  | some ⟨_, _, .func fd, _⟩ => some (fd.name, fd.qualname, fd.params, fd.body, fd.scope, fd.globals, fd.closure.map (·.1), fd.builtins)
  | _ => none
def MemD.val (m : MemD) : FnV := some (m.name, m.qual, m.params, .stmts m.body, m.scope, mainGlobals, [], builtinsNs)
def MemD.ok (K : PySem.W.Frag) (m : MemD) : Bool := PySem.W.keepIn K (.ref (m.ad K)) && (match K.lookup (m.ad K) with
  | some ⟨_, _, .func fd, _⟩ => PySem.W.codeIn K fd.code m.qual && (dflB K fd.defaults [] && kwdB K fd.kwdefaults (m.kws K))
  | _ => false)
theorem MemD.funD {K : PySem.W.Frag} {m : MemD} (e : fnVa K (m.ad K) = m.val) (c : m.ok K = true) : ∃ fd, FunD K m.name m.qual m.params m.body m.scope [] (m.kws K) (m.ad K) fd := by
  unfold MemD.ok at c
  rw [Bool.and_eq_true] at c
  obtain ⟨kp, c2⟩ := c
  unfold fnVa at e
  split at e
  case h_2 => cases e
  rename_i oc od fd osl q
  rw [q] at c2
  have c3 : (PySem.W.codeIn K fd.code m.qual && (dflB K fd.defaults [] && kwdB K fd.kwdefaults (m.kws K))) = true := c2
  simp only [Bool.and_eq_true] at c3
  obtain ⟨k1, k2, k3⟩ := c3
  obtain ⟨y1, y2, y3, y4, y5, y6, y7, y8, y9, y10, y11, y12, y13, y14, y15⟩ := fd
  have e2 : (some (y1, y2, y3, y4, y5, y6, y7.map (·.1), y15) : FnV) = some (m.name, m.qual, m.params, .stmts m.body, m.scope, mainGlobals, [], builtinsNs) := e
  simp only [Option.some.injEq, Prod.mk.injEq] at e2
  obtain ⟨h1, h2, h3, h4, h5, h6, h7, h8⟩ := e2
  have h9 : y7 = [] := List.map_eq_nil_iff.mp h7
  subst h1 h2 h3 h4 h5 h6 h8 h9
  exact ⟨_, ⟨oc, od, y8, y9, y10, y11, y12, y13, y14, osl, rfl, q, k1, dflB_ok k2, kwdB_ok k3⟩, kp⟩
/-! ### the Hook -/
def obsY (ck : PySem.W.Frag → Bool) (fn : List DefV) (ms : List MemD) (K : PySem.W.Frag) : AlP := ((ck K && ms.all fun m => m.ok K) && fn.all fun d => d.ok K, fn.map (fun d => fnV K d.d.at_) ++ ms.map fun m => fnVa K (m.ad K))
def valY (fn : List DefV) (ms : List MemD) : AlP := (true, fn.map DefV.val ++ ms.map MemD.val)
def SaysY (ck : PySem.W.Frag → Bool) (fn : List DefV) (ms : List MemD) (K : PySem.W.Frag) : Prop := obsY ck fn ms K = valY fn ms
section
variable {ck : PySem.W.Frag → Bool} {fn : List DefV} {ms : List MemD} {K : PySem.W.Frag}
theorem SaysY.one (c : SaysY ck fn ms K) : ((ck K && ms.all fun m => m.ok K) && fn.all fun d => d.ok K) = true := congrArg (fun z : AlP => z.1) c
theorem SaysY.two (c : SaysY ck fn ms K) : fn.map (fun d => fnV K d.d.at_) ++ ms.map (fun m => fnVa K (m.ad K)) = fn.map DefV.val ++ ms.map MemD.val := congrArg (fun z : AlP => z.2) c
theorem SaysY.says (c : SaysY ck fn ms K) : SaysP ck fn K := by
  have c1 := c.one
  have c2 := (List.append_inj c.two (by rw [List.length_map, List.length_map])).1
  simp only [Bool.and_eq_true] at c1
  show (ck K && fn.all fun d => d.ok K, fn.map fun d => fnV K d.d.at_) = (true, fn.map DefV.val)
  rw [c2, c1.1.1, c1.2]; rfl
theorem SaysY.mem (c : SaysY ck fn ms K) (i : Nat) {m : MemD} (h : ms[i]? = some m := by rfl) : ∃ fd, FunD K m.name m.qual m.params m.body m.scope [] (m.kws K) (m.ad K) fd := by
  have c1 := c.one
  have c2 := (List.append_inj c.two (by rw [List.length_map, List.length_map])).2
  simp only [Bool.and_eq_true] at c1
  have e2 : (ms.map fun m => fnVa K (m.ad K))[i]? = (ms.map MemD.val)[i]? := by rw [c2]
  rw [List.getElem?_map, List.getElem?_map, h] at e2
  exact MemD.funD (Option.some.inj e2) (List.all_eq_true.mp c1.1.2 _ (List.mem_of_getElem? h))
end
/-! ### checks of classes -/
def ownB (K : PySem.W.Frag) (c : Str) : Bool :=
  (Fa.glo c).ok K && ((Fa.cls c).ok K && ((Fa.mkr c).ok K && (eqO (PySem.W.findIn K (.ref (ga K c)) "__class__") (some (some (.builtin "object.__class__"))) && (eqO (PySem.W.specialIn K (.builtin "object.__class__") "__get__") (some (some (.builtin "getset_descriptor.__get__"))) &&
  (decide (PySem.W.takesIn K (.builtin "object.__class__") = some true) && (decide (PySem.W.mroIn K (ga K c) (.type "object") = some true) && (decide (PySem.W.kitOne K (.ref (ga K c)) (.ref (ga K c)) = some true) && (PySem.W.selfFirst K (ga K c) &&
  ((["NoneType", "bool", "int", "str", "list", "tuple", "dict"].all fun t => decide (PySem.W.kitOne K (.type t) (.ref (ga K c)) = some false)) && (["bool", "int", "str", "list", "tuple"].all fun t => decide (PySem.W.kitOne K (.ref (ga K c)) (.type t) = some false)))))))))))
theorem ownB_ok {K : PySem.W.Frag} {h : Heap} {mg : Str → Option Value} {c : Str} (X : K.In h) (G : h.Ns mainGlobals mg) (o : ownB K c = true) : OwnK K mg c ∧ Cls K (ga K c) ∧ Mk K (ga K c) (ma K (ga K c) "__init__") ∧ PySem.W.selfFirst K (ga K c) = true := by
  unfold ownB at o
  simp only [Bool.and_eq_true] at o
  obtain ⟨a1, a2, a3, a4, a5, a6, a7, a8, a9, a10, a11⟩ := o
  exact ⟨⟨glo_ok X G a1, ⟨cls_ok a2, eqO_ok a4, eqO_ok a5, of_decide_eq_true a6, of_decide_eq_true a7⟩, of_decide_eq_true a8, fun t ht => of_decide_eq_true (List.all_eq_true.mp a10 t ht), fun t ht => of_decide_eq_true (List.all_eq_true.mp a11 t ht)⟩, cls_ok a2, mkr_ok a3, a9⟩
def memB (K : PySem.W.Frag) (m : MemD) : Bool := if m.get = true then
    eqO (PySem.W.findIn K (.ref (ga K m.c)) m.f) (some (some (.ref (ma K (ga K m.c) m.f)))) && (eqO (PySem.W.specialIn K (.ref (ma K (ga K m.c) m.f)) "__get__") (some (some (.builtin "property.__get__"))) && (decide (PySem.W.takesIn K (.ref (ma K (ga K m.c) m.f)) = some true) &&
      (match PySem.W.recIn K (ma K (ga K m.c) m.f) "property" with | some (.ref _ :: _) => true | _ => false)))
  else (Fa.meth m.c m.f).ok K && PySem.W.fnIn K (ma K (ga K m.c) m.f)
theorem memB_get {K : PySem.W.Frag} {m : MemD} (h : memB K m = true) (g : m.get = true) : PropOf K (ga K m.c) m.f (ma K (ga K m.c) m.f) (m.ad K) := by
  unfold memB at h
  rw [if_pos g] at h
  simp only [Bool.and_eq_true] at h
  obtain ⟨h1, h2, h3, h4⟩ := h
  have ea : m.ad K = gAd K m.c m.f := if_pos g
  refine ⟨eqO_ok h1, eqO_ok h2, of_decide_eq_true h3, ?_⟩
  rw [ea]
  unfold gAd
  cases q : PySem.W.recIn K (ma K (ga K m.c) m.f) "property" with
  | none => rw [q] at h4; cases h4
  | some l =>
    rw [q] at h4
    cases l with
    | nil => cases h4
    | cons v r => cases v <;> first | exact ⟨r, rfl⟩ | cases h4
theorem memB_meth {K : PySem.W.Frag} {m : MemD} (h : memB K m = true) (g : m.get = false) : Meth K (ga K m.c) m.f (m.ad K) ∧ PySem.W.fnIn K (m.ad K) = true := by
  have ng : ¬ m.get = true := by rw [g]; exact Bool.false_ne_true
  unfold memB at h
  rw [if_neg ng] at h
  simp only [Bool.and_eq_true] at h
  have ea : m.ad K = ma K (ga K m.c) m.f := if_neg ng
  rw [ea]
  exact ⟨meth_ok h.1, h.2⟩
/-! ### promises of members -/
section
variable {P : Program} {w : World} {K : PySem.W.Frag} {mg : Str → Option Value} {base : Heap} {x qual : Str} {params : Arguments} {body : List Stmt} {scope : Scope} {f : Addr} {fd : FuncData} {N ps : List Str} {k n : Nat} {W : DW1} {c m : Str}
theorem fdm_ok (hW : MonoW W) (C : Cls K (ga K c)) (M : Meth K (ga K c) m f) (F : FunD K x qual params body scope [] [] f fd) (S : FnScope N ps scope) (hn : ps.length = n) (hlen : ∀ ds Q E, W ds Q E → ds.length = ps.length)
    (hbd : ∀ (kV doc pm : Value) (an : Option Addr) (cdv ct : Value) (us : List Value), us.length = ps.length → bindArgs (PySem.W.fnOf x qual params body scope .none kV doc pm an cdv ct) ⟨us, []⟩ = pure (ps.zip us))
    (hb : ∀ (cdv : Value) (A : Around) (outer : List Env) (s : Shared) (H : Hp) (E : XK) (so : Option Addr) (B : Hp), Room k (A.deeper (envOfC qual scope s.heap.objs.size f cdv)) →
      L2N.Takes (cxD P w K mg base N qual scope f cdv A outer s H E) (fun cls d _ H => E cls d H) →
      ∃ wb, DSs ⟨K, so, B, H, fun _ => E⟩ (cxD P w K mg base N qual scope f cdv A outer s H E) body wb ∧ ∀ ds Q E', W ds Q E' → wb (bodyEnds Q) (entry N.length ds) (fun e _ => E' e)) :
    FDm P w K mg base (k + 1) c m n W := by
  subst hn
  exact ⟨hW, f, fd, ps, C, M, fn_body F S hlen hb, F.bindsN hbd⟩
theorem fds_ok (hW : MonoW W) (sf : PySem.W.selfFirst K (ga K c) = true) (M : Meth K (ga K c) m f ∧ PySem.W.fnIn K f = true) (F : FunD K x qual params body scope [] [] f fd) (S : FnScope N ps scope) (hn : ps.length = n) (hlen : ∀ ds Q E, W ds Q E → ds.length = ps.length)
    (hbd : ∀ (kV doc pm : Value) (an : Option Addr) (cdv ct : Value) (us : List Value), us.length = ps.length → bindArgs (PySem.W.fnOf x qual params body scope .none kV doc pm an cdv ct) ⟨us, []⟩ = pure (ps.zip us))
    (hb : ∀ (cdv : Value) (A : Around) (outer : List Env) (s : Shared) (H : Hp) (E : XK) (so : Option Addr) (B : Hp), Room k (A.deeper (envOfC qual scope s.heap.objs.size f cdv)) →
      L2N.Takes (cxD P w K mg base N qual scope f cdv A outer s H E) (fun cls d _ H => E cls d H) →
      ∃ wb, DSs ⟨K, so, B, H, fun _ => E⟩ (cxD P w K mg base N qual scope f cdv A outer s H E) body wb ∧ ∀ ds Q E', W ds Q E' → wb (bodyEnds Q) (entry N.length ds) (fun e _ => E' e)) :
    FDs P w K mg base (k + 1) c m n W := by
  subst hn
  exact ⟨hW, f, fd, ps, M.1, M.2, sf, fn_body F S hlen hb, F.bindsN hbd⟩
theorem fdg_ok {p : Addr} (hW : MonoW W) (C : Cls K (ga K c)) (M : PropOf K (ga K c) m p f) (F : FunD K x qual params body scope [] [] f fd) (S : FnScope N ps scope) (hn : ps.length = 1) (hlen : ∀ ds Q E, W ds Q E → ds.length = ps.length)
    (hbd : ∀ (kV doc pm : Value) (an : Option Addr) (cdv ct : Value) (us : List Value), us.length = ps.length → bindArgs (PySem.W.fnOf x qual params body scope .none kV doc pm an cdv ct) ⟨us, []⟩ = pure (ps.zip us))
    (hb : ∀ (cdv : Value) (A : Around) (outer : List Env) (s : Shared) (H : Hp) (E : XK) (so : Option Addr) (B : Hp), Room k (A.deeper (envOfC qual scope s.heap.objs.size f cdv)) →
      L2N.Takes (cxD P w K mg base N qual scope f cdv A outer s H E) (fun cls d _ H => E cls d H) →
      ∃ wb, DSs ⟨K, so, B, H, fun _ => E⟩ (cxD P w K mg base N qual scope f cdv A outer s H E) body wb ∧ ∀ ds Q E', W ds Q E' → wb (bodyEnds Q) (entry N.length ds) (fun e _ => E' e)) :
    FDg P w K mg base (k + 1) c m W := by
  have q := fn_body (W := W) F S hlen hb
  rw [hn] at q
  exact ⟨hW, p, f, fd, ps, C, M, q, F.bindsN hbd⟩
theorem fdmk_ok {ks : List Str} (hW : MonoW W) (C : Cls K (ga K c)) (M : Meth K (ga K c) m f) (F : FunD K x qual params body scope [] [] f fd) (S : FnScope N ps scope) (hn : ps.length = n) (hlen : ∀ ds Q E, W ds Q E → ds.length = ps.length)
    (hbd : ∀ (kV doc pm : Value) (an : Option Addr) (cdv ct : Value) (u : Value) (ws : List Value), ws.length = ks.length → bindArgs (PySem.W.fnOf x qual params body scope .none kV doc pm an cdv ct) ⟨[u], ks.zip ws⟩ = pure (ps.zip (u :: ws)))
    (hb : ∀ (cdv : Value) (A : Around) (outer : List Env) (s : Shared) (H : Hp) (E : XK) (so : Option Addr) (B : Hp), Room k (A.deeper (envOfC qual scope s.heap.objs.size f cdv)) →
      L2N.Takes (cxD P w K mg base N qual scope f cdv A outer s H E) (fun cls d _ H => E cls d H) →
      ∃ wb, DSs ⟨K, so, B, H, fun _ => E⟩ (cxD P w K mg base N qual scope f cdv A outer s H E) body wb ∧ ∀ ds Q E', W ds Q E' → wb (bodyEnds Q) (entry N.length ds) (fun e _ => E' e)) :
    FDmK P w K mg base (k + 1) c m n ks W := by
  subst hn
  refine ⟨hW, f, fd, ps, C, M, fn_body F S hlen hb, fun s u ws _ hl => ?_⟩
  obtain ⟨oc, od, dV, kV, doc, pm, an, cdv, ct, osl, rfl, lk, hcd, hD, hK⟩ := F.ex
  rcases hD with ⟨_, rfl⟩ | ⟨e, _⟩
  · exact .of_eq (hbd kV doc pm an cdv ct u ws hl)
  · exact absurd rfl e
theorem fld_of {c f : Str} (C : Cls K (ga K c)) (n : (Fa.noat c f).ok K = true) : FldK K c f := ⟨C, noat_ok n⟩
end
end DL
set_option Elab.async false
set_option maxRecDepth 100000
set_option maxHeartbeats 4000000
set_option linter.unusedVariables false
/-! data-level layer, part Mh: loops over a list or a tuple, an __init__ as a printer takes it -/
namespace DL
open PySem PySem.Spec PyProof.Rows L2 NdefX He
def iLT (K : PySem.W.Frag) (tl : TE) : TI := fun σ H R => tl σ H fun x H1 => ∃ a, x = .ref a ∧ (((∃ xs, SqL K H1 a xs) ∧ R (Itl K a) H1) ∨ ((∃ xs, SqT K H1 a xs) ∧ R (Itt K a) H1))
theorem pi_lt {X : Cx} {tg l : Expr} {tl : TE} (hl : PE X l tl) : PI X tg l (iLT X.K tl) := by
  refine ⟨fun pins s σ H R I h => ?_⟩
  refine thn (hl.run pins s σ H _ I h) fun v s1 ⟨x, H1, I1, r1, q1⟩ => ?_
  obtain ⟨a, e, q⟩ := q1
  subst e
  cases r1
  have fpk : ∀ b ∈ [s1.heap.objs.size], FpOk X pins H1 b := fun b hb => by
    have e : b = s1.heap.objs.size := by simpa using hb
    subst e
    exact I1.fpOk (Nat.le_refl _) (I1.hok.fresh (Nat.le_refl _))
  rcases q with ⟨⟨xs, hq⟩, q⟩ | ⟨⟨xs, hq⟩, q⟩
  · obtain ⟨its, rv, p, hz⟩ := I1.list hq
    refine wpAny_pyIter_list p.isList ?_
    exact ⟨s1.heap.objs.size, [s1.heap.objs.size], _, _, H1, rfl, I1.kept (t' := s1.toks) fun b o e => Heap.get?_push_of_some _ e, turn_list a _, ⟨_, Heap.get?_push_size _ rfl, rfl, rfl⟩, fpk, q⟩
  · obtain ⟨its, rv, p, hz⟩ := I1.tuple hq
    refine wpAny_pyIter_tuple (show s1.heap.IsTuple a its.toArray from p) ?_
    exact ⟨s1.heap.objs.size, [s1.heap.objs.size], _, _, H1, rfl, I1.kept (t' := s1.toks) fun b o e => Heap.get?_push_of_some _ e, turn_tuple a _, ⟨_, Heap.get?_push_size _ rfl, rfl, rfl⟩, fpk, q⟩
def wItemsLT (w : DT Sl) : DT (List D) := fun ρ Q E => w ρ (fun x ρ1 => match x.dat with
  | .lst ds => Q ds ρ1
  | .tup ds => Q ds ρ1
  | _ => False) E
theorem wItemsLT_mono {w : DT Sl} (h : Mono w) : Mono (wItemsLT w) := fun _ _ _ _ _ hq he q => h (fun x ρ1 k => by
  split at k
  · exact hq _ _ k
  · exact hq _ _ k
  · exact k.elim) he q
theorem di_lt {G : Gx} {X : Cx} {tg l : Expr} {w : DT Sl} (hK : G.K = X.K) (h : DE G X l w) : DI G X tg l (wItemsLT w) := by
  refine ⟨wItemsLT_mono h.mono, _, pi_lt h.pe, fun σ H R q => ?_⟩
  obtain ⟨ρ, τ, hA, hw⟩ := q
  refine ⟨ρ, τ, hA, h.mono (fun x ρ1 k nx l1 v H1 A1 => ?_) (fun _ _ k => k) hw⟩
  obtain ⟨B, h1, h2⟩ := A1.still nx
  split at k
  · rename_i ds e
    rw [e] at h1
    cases h1 with
    | @lst a vs _ hs hv =>
      refine ⟨a, rfl, .inl ⟨⟨_, .inl (.inl (h2.hi _ _ hs))⟩, ?_⟩⟩
      rw [← hK]
      exact k l1 _ _ H1 (At.addSh A1.len h2 (.lst hs hv)) srv_list
  · rename_i ds e
    rw [e] at h1
    cases h1 with
    | @tup a vs _ hs hv =>
      refine ⟨a, rfl, .inr ⟨⟨_, hK ▸ sqT_same h2.hi hs⟩, ?_⟩⟩
      rw [← hK]
      exact k l1 _ _ H1 (At.addSh A1.len h2 (.tup hs hv)) srv_tup
  · exact k.elim
/-! ### an __init__ -/
structure DIs (G : Gx) (X : Cx) (a dx C : Addr) (body : List Stmt) (r : DIb) : Prop where
  mono : MonoIb r
  ps : PSs X body (tI G a dx C r)
section
variable {G : Gx} {X : Cx} {a dx C : Addr} {st : Stmt} {rest : List Stmt} {w : DS} {r : DIb}
theorem dis_end : DIs G X a dx C [] iEnd := ⟨iEnd_mono, in_end⟩
theorem dis_stm (hso : G.so ≠ some a) (hs : ∀ B H, DSt ⟨G.K, G.so, B, H, G.EX⟩ X st w) (hr : DIs G X a dx C rest r) : DIs G X a dx C (st :: rest) (iStm w r) := ⟨iStm_mono (hs (fun _ => none) (fun _ => none)).mono hr.mono, in_stm hs hso hr.ps⟩
theorem dis_fld {c f self : Str} {e : Expr} {we : DT Sl} {p p1 p2 : Pos} (hC : Cls X.K C) (hf : NoAttr X.K C f) (hso : G.so ≠ some a) (hcut : G.H0 a = none) (he : ∀ B H, DE ⟨G.K, G.so, B, H, G.EX⟩ X e we) (hr : DIs G X a dx C rest r) (hN : X.N[0]? = some self := by rfl) (hv : Vis X.env.scope self := by first | exact Or.inl rfl | exact Or.inr (Or.inl rfl) | exact Or.inr (Or.inr rfl))
    (hs : swapsWith e (some (.Attribute (.Name self p) f p1)) p2.line X.env = pure false := by rfl) (hd : (self == ("__debug__" : Str)) = false := by decide) (hcd : (self == ("__classdict__" : Str)) = false := by decide) :
    DIs G X a dx C (.Assign [.Attribute (.Name self p) f p1] e p2 :: rest) (iFld G.K c f we r) := ⟨iFld_mono (he (fun _ => none) (fun _ => none)).mono hr.mono, in_fld hC hf he hso hcut hN hv hs hr.ps hd hcd⟩
end
section
variable {P : Program} {w : World} {K : PySem.W.Frag} {mg : Str → Option Value} {base : Heap} {x qual c : Str} {params : Arguments} {body : List Stmt} {scope : Scope} {f : Addr} {fd : FuncData}
theorem fdi_ok2 {N ps : List Str} {k n : Nat} {W : DW1} {wb : DIb} (hW : MonoW W) (hm : mg c = some (.ref (He.ga K c))) (M : Mk K (He.ga K c) f) (F : FunD K x qual params body scope [] [] f fd) (S : FnScope N ps scope) (hps : ps.length = n + 1) (hlen : ∀ ds Q E, W ds Q E → ds.length = n)
    (hbd : ∀ (kV doc pm : Value) (an : Option Addr) (cdv ct : Value) (us : List Value), us.length = ps.length → bindArgs (PySem.W.fnOf x qual params body scope .none kV doc pm an cdv ct) ⟨us, []⟩ = pure (ps.zip us))
    (hb : ∀ (cdv : Value) (A : Around) (outer : List Env) (s : Shared) (H : Hp) (E : XK), Room k (A.deeper (envOfC qual scope s.heap.objs.size f cdv)) →
      L2N.Takes (cxD P w K mg base N qual scope f cdv A outer s H E) (fun cls d _ H => E cls d H) →
      ∀ (so : Option Addr) (B H0 : Hp) (a dx : Addr), so ≠ some a → H0 a = none → DIs ⟨K, so, B, H0, fun _ => E⟩ (cxD P w K mg base N qual scope f cdv A outer s H E) a dx (He.ga K c) body wb)
    (hq : ∀ a ds Q E', W ds Q E' → wb a [] [] (entry N.length (selfD K c a :: ds)) (fun fs ds => Q (.sh (.ins c fs ds))) E') :
    FDi P w K mg base (k + 1) c n W :=
  fdi_ok hW hm M F S hps hlen hbd fun cdv A outer s H E hr tk => ⟨wb, (hb cdv A outer s H E hr tk none (fun _ => none) (fun _ => none) 0 0 (fun z => by cases z) rfl).mono, fun so B H0 a dx h1 h2 => (hb cdv A outer s H E hr tk so B H0 a dx h1 h2).ps, hq⟩
end
end DL
set_option Elab.async false
set_option maxRecDepth 100000
set_option maxHeartbeats 4000000
set_option linter.unusedVariables false
/-! data-level layer, part Mi: name = [comprehension] on one line -/
namespace DL
open PySem PySem.Spec PyProof.Rows L2 NdefX
section
variable {G : Gx} {X : Cx} {elt iter c : Expr} {scope : Scope} {pos px py spos : Pos} {x y : Str} {wi : DT (List D)} {wt : DT Bool} {we : DT Sl}
theorem ds_setLc {ifs : List Expr} (j i : Nat) (hc : X.calm = true) (hN : X.N.Nodup) (hi : DI G X (.Name x px) iter wi) (mt : Mono wt) (me : Mono we) (ok : BlkOk X.N X.env.scope scope [(x, i)])
    (hg : ∀ (s : Shared) (H : Hp) (C : Addr) (cl : List (Str × Addr)) (fp : List Addr), PG (X.blk s H scope (compEnvC scope cl C X.env) fp) (.Name x px) (gName i))
    (ht : ∀ (s : Shared) (H : Hp) (C : Addr) (cl : List (Str × Addr)) (fp : List Addr), PTs (X.blk s H scope (compEnvC scope cl C X.env) fp) ifs (tDB (G.wish fun _ _ _ _ => False) wt))
    (he : ∀ (s : Shared) (H : Hp) (C : Addr) (cl : List (Str × Addr)) (fp : List Addr), PE (X.blk s H scope (compEnvC scope cl C X.env) fp) elt (tD (G.wish fun _ _ _ _ => False) we))
    (hy : X.N[j]? = some y) (hyl : X.env.scope.names.lookup y = some .local) (hsw : swapsWith (.ListComp elt [⟨.Name x px, iter, ifs, 0⟩] scope pos) (some (.Name y py)) spos.line X.env = pure true)
    (hs : ∀ x, foldedSetIterable iter X.env x = pure x) :
    DSt G X (.Assign [.Name y py] (.ListComp elt [⟨.Name x px, iter, ifs, 0⟩] scope pos) spos) (wSet j (wLc i wi wt we)) := by
  obtain ⟨ti, hti, qi⟩ := hi.pi
  have mw : Mono (wLc i wi wt we) := fun ρ Q Q' E E' hq he2 h => hi.mono (fun items ρ1 ⟨x, k1, k2, k3⟩ => ⟨x, k1, k2, lcD_mono mt me (fun acc ρ2 k p => hq _ _ (k p)) _ _ _ k3⟩) he2 h
  refine ⟨fun _ _ _ _ _ q hd h => mw (fun x _ k => hd.nx _ k) h q, ps_weak (ps_setLc hc hN hy hyl hsw hti ok hg ht he hs) fun D σ H h => ?_⟩
  obtain ⟨ρ, τ, hA, hw⟩ := h
  refine lc_data i hi.mono qi mt me ⟨ρ, τ, hA, mw (fun x ρ1 k nx l v H1 A1 => ?_) (fun _ _ k => k) hw⟩
  exact k (by rw [List.length_set]; exact l) _ H1 (A1.store j)
theorem ds_setLcA (j i : Nat) (hc : X.calm = true) (hN : X.N.Nodup) (hi : DI G X (.Name x px) iter wi) (ok : BlkOk X.N X.env.scope scope [(x, i)])
    (hg : ∀ (s : Shared) (H : Hp) (C : Addr) (cl : List (Str × Addr)) (fp : List Addr), PG (Xb X scope s H C cl fp) (.Name x px) (gName i))
    (he : ∀ (s : Shared) (H : Hp) (C : Addr) (cl : List (Str × Addr)) (fp : List Addr), DE (Gn G) (Xb X scope s H C cl fp) elt we)
    (hy : X.N[j]? = some y := by rfl) (hyl : X.env.scope.names.lookup y = some .local := by rfl) (hsw : swapsWith (.ListComp elt [⟨.Name x px, iter, [], 0⟩] scope pos) (some (.Name y py)) spos.line X.env = pure true := by rfl)
    (hs : ∀ x, foldedSetIterable iter X.env x = pure x := by intro _; rfl) : DSt G X (.Assign [.Name y py] (.ListComp elt [⟨.Name x px, iter, [], 0⟩] scope pos) spos) (wSet j (wLc i wi wTrue we)) :=
  ds_setLc j i hc hN hi wTrue_mono (he s0 (fun _ => none) 0 [] []).mono ok hg (fun _ _ _ _ _ => pts_true) (fun s H C cl fp => (he s H C cl fp).pe) hy hyl hsw hs
theorem ds_setLcB (j i : Nat) (hc : X.calm = true) (hN : X.N.Nodup) (hi : DI G X (.Name x px) iter wi) (ok : BlkOk X.N X.env.scope scope [(x, i)])
    (hg : ∀ (s : Shared) (H : Hp) (C : Addr) (cl : List (Str × Addr)) (fp : List Addr), PG (Xb X scope s H C cl fp) (.Name x px) (gName i))
    (ht : ∀ (s : Shared) (H : Hp) (C : Addr) (cl : List (Str × Addr)) (fp : List Addr), DB (Gn G) (Xb X scope s H C cl fp) c wt)
    (he : ∀ (s : Shared) (H : Hp) (C : Addr) (cl : List (Str × Addr)) (fp : List Addr), DE (Gn G) (Xb X scope s H C cl fp) elt we)
    (hy : X.N[j]? = some y := by rfl) (hyl : X.env.scope.names.lookup y = some .local := by rfl) (hsw : swapsWith (.ListComp elt [⟨.Name x px, iter, [c], 0⟩] scope pos) (some (.Name y py)) spos.line X.env = pure true := by rfl)
    (hs : ∀ x, foldedSetIterable iter X.env x = pure x := by intro _; rfl) : DSt G X (.Assign [.Name y py] (.ListComp elt [⟨.Name x px, iter, [c], 0⟩] scope pos) spos) (wSet j (wLc i wi wt we)) :=
  ds_setLc j i hc hN hi (ht s0 (fun _ => none) 0 [] []).mono (he s0 (fun _ => none) 0 [] []).mono ok hg (fun s H C cl fp => pts_cond (ht s H C cl fp)) (fun s H C cl fp => (he s H C cl fp).pe) hy hyl hsw hs
end
end DL
set_option Elab.async false
set_option maxRecDepth 100000
set_option maxHeartbeats 4000000
set_option linter.unusedVariables false
/-! data-level layer, part Mj: an own class with a keyword-only None, instances among the bad values, a global's second name -/
namespace DL
open PySem PySem.Spec PyProof.Rows L2 NdefX He
/-! ### a def that stands at another name -/
theorem glosA_of {K : PySem.W.Frag} {mg : Str → Option Value} {h : Heap} {fn : List DefV} (X : K.In h) (G : h.Ns mainGlobals mg) (c : ((fn.filter fun d => d.free.isEmpty).all fun d => (Fa.glo d.d.at_.1).ok K) = true) (i : Nat) {d : DefD} (e : fn[i]? = some ⟨d, []⟩) : mg d.at_.1 = some (.ref (ga K d.at_.1)) :=
  glo_ok X G (List.all_eq_true.mp c _ (List.mem_filter.mpr ⟨List.mem_of_getElem? e, rfl⟩))
/-! ### a class whose __init__ has one keyword-only parameter, None if it lacks -/
structure FDj (P : Program) (w : World) (K : PySem.W.Frag) (mg : Str → Option Value) (base : Heap) (k : Nat) (c : Str) (n : Nat) (W : DW1) : Prop where
  mono : MonoW W
  ex : ∃ (f : Addr) (fd : FuncData) (ps : List Str) (us : List Value), mg c = some (.ref (He.ga K c)) ∧ Mk K (He.ga K c) f ∧ FnOk P w K mg base (L2N.CX P w) k f fd ps (spI K (He.ga K c) (n + 1) W) ∧ Vals [V.non] us ∧ Binds K fd ps us
/-- W's last argument is the None that lacks -/
def lackN (W : DW1) : DW1 := fun ds Q E => W (ds ++ [.non]) Q E
theorem lackN_mono {W : DW1} (h : MonoW W) : MonoW (lackN W) := fun _ _ _ _ _ hq he k => h hq he k
theorem Rps.snoc {K : PySem.W.Frag} {so : Option Addr} {B : Hp} : ∀ {vs : List V} {ds : List D} {v : V} {d : D}, Rps K so B vs ds → Rp K so B v d → Rps K so B (vs ++ [v]) (ds ++ [d])
  | _, _, _, _, .nil, h => .cons h .nil
  | _, _, _, _, .cons a b, h => .cons a (Rps.snoc b h)
section
variable {G : Gx} {X : Cx} {e : Expr} {es : List Expr} {wr : DT (List Sl)} {p pos : Pos} {c : Str} {k n : Nat} {W : DW1}
theorem de_makeN (F : FDj X.prog X.w X.K X.mg X.base k c n W) (hr : Room (k + 1) X.A) (hK : G.K = X.K) (tk : L2N.Takes X fun cls d σ H => G.EX σ cls d H) (hE : ∀ σ σ' : St, G.EX σ = G.EX σ') (ha : DA G X (e :: es) wr) (hn : es.length + 1 = n := by rfl) (hg : Gl X c := by rfl)
    (hdb : (c == ("__debug__" : Str)) = false := by decide) (he : starEach (e :: es) X.env = (false, eval e X.env) :: starEach es X.env := by rfl) (hpl : (backTo pos (starEach es X.env)).any (·.1) = false := by rfl) : DE G X (.Call (.Name c p) (e :: es) [] pos) (wCall (lackN W) wr) := by
  obtain ⟨hW, f, fd, ps, us, hm, hM, hF, hV, hB⟩ := F
  have tk' : L2N.Takes X fun cls d _ H => G.EX [] cls d H := tk.imp fun c d σ H h => by rw [hE σ []]; exact h
  refine ⟨wCall_mono (lackN_mono hW) ha.mono, pe_weak (pe_make (E := G.EX []) (dvs := [.non]) hM hF hr hg hm hB hV (L2N.passes_call tk' fun _ _ _ _ h => h) ha.pa hdb he hpl) fun σ H Q h => ?_⟩
  obtain ⟨ρ, τ, hA, hw⟩ := h
  refine ⟨ρ, τ, hA, ha.mono (fun xs ρ1 k nxs ln l vs H1 lv A1 => ?_) (fun _ _ e => e) hw⟩
  obtain ⟨B, h1, h2⟩ := A1.stills lv nxs
  intro x dx hx hdx hne
  have s1 : Same H1 (upd (upd H1 dx (.own x)) x (.ins (He.ga X.K c) dx [])) := by
    refine (same_upd hdx).trans (same_upd ?_)
    rw [upd_ne (Ne.symm hne)]; exact hx
  have cutS : ∀ b o, H1 b = some o → cut (upd (upd H1 dx (.own x)) x (.ins (He.ga X.K c) dx [])) x b = some o := fun b o e => by
    have : b ≠ x := fun z => by rw [z, hx] at e; cases e
    rw [cut_ne this]; exact s1 b o e
  rw [← hK]
  refine ⟨x, dx, vs ++ [.non], G.so, B, datas xs ++ [.non], rfl, by rw [hK]; exact upd_same .., h2.free hx, fun z => ?_, by rw [List.length_append]; unfold datas; rw [List.length_map, ln]; exact congrArg Nat.succ hn, h2.hi.trans (by rw [hK]; exact s1), fun s es => ?_, Rps.snoc h1 .non, ?_⟩
  · obtain ⟨ys, hy⟩ := h2.store_some z
    rw [hx] at hy; cases hy
  · obtain ⟨t1, t2⟩ := h2.st s es
    refine ⟨t1, t2.mono (Same.refl _) ?_⟩
    obtain ⟨ys, hy⟩ := h2.store_some es
    rw [hy, hK]
    exact s1 _ _ hy
  · refine hW (fun z q nz H' r => ⟨rfl, ?_⟩) (fun e q B' cls d H' r hx2 => ?_) k
    · obtain ⟨B', r⟩ := r
      refine q nz l _ H' ⟨A1.len, B', ?_⟩
      rw [← List.append_assoc]
      exact h2.after (r.less (by rw [hK]; exact cutS))
    · have r2 := h2.after0 (r.less (by rw [hK]; exact cutS))
      have := q σ cls d H' B' A1.len r2 hx2
      rw [hE [] σ]; exact this
end
section
variable {P : Program} {w : World} {K : PySem.W.Frag} {mg : Str → Option Value} {base : Heap} {x qual c : Str} {params : Arguments} {body : List Stmt} {scope : Scope} {f : Addr} {fd : FuncData}
theorem fdj_ok {N ps : List Str} {k n : Nat} {W : DW1} {wb : DIb} {nm : Str} (hW : MonoW W) (hm : mg c = some (.ref (He.ga K c))) (M : Mk K (He.ga K c) f) (F : FunD K x qual params body scope [] [(nm, .non)] f fd) (S : FnScope N ps scope) (hps : ps.length = n + 2) (hlen : ∀ ds Q E, W ds Q E → ds.length = n + 1)
    (hbd : ∀ (D : Addr) (doc pm : Value) (an : Option Addr) (cdv ct : Value) (us ks : List Value), us.length = n + 1 → ks.length = 1 →
      KwChain D (([(nm, V.non)].map (·.1)).zip ks) (bindArgs (PySem.W.fnOf x qual params body scope .none (.ref D) doc pm an cdv ct) ⟨us, []⟩) (ps.zip (us ++ ks)))
    (hb : ∀ (cdv : Value) (A : Around) (outer : List Env) (s : Shared) (H : Hp) (E : XK), Room k (A.deeper (envOfC qual scope s.heap.objs.size f cdv)) →
      L2N.Takes (cxD P w K mg base N qual scope f cdv A outer s H E) (fun cls d _ H => E cls d H) →
      ∀ (so : Option Addr) (B H0 : Hp) (a dx : Addr), so ≠ some a → H0 a = none → DIs ⟨K, so, B, H0, fun _ => E⟩ (cxD P w K mg base N qual scope f cdv A outer s H E) a dx (He.ga K c) body wb)
    (hq : ∀ a ds Q E', W ds Q E' → wb a [] [] (entry N.length (selfD K c a :: ds)) (fun fs ds => Q (.sh (.ins c fs ds))) E') :
    FDj P w K mg base (k + 1) c n W := by
  obtain ⟨us, hV, hB⟩ := F.binds0 (ps := ps) (n + 1) (List.cons_ne_nil _ _) (by rw [hps]; rfl) hbd
  refine ⟨hW, f, fd, ps, us, hm, M, ?_, hV, hB⟩
  refine F.ok S (fun vs H Q E h => ?_) (fun cdv A outer s H vs Q E hr h => ?_)
  · obtain ⟨a, dx, us, so, B, ds, rfl, _, _, _, ln, _, _, hv, _⟩ := h
    rw [List.length_cons, hv.len, ln, hps]
  · obtain ⟨a, dx, us, so, B, ds, rfl, h0, b0, hso, ln, e, st, hv, hw⟩ := h
    have hd := hb cdv A outer s H E hr (L2N.takes_of rfl rfl rfl rfl) so B (cut H a) a dx hso cut_eq
    refine ⟨_, hd.ps, entry N.length (selfD K c a :: ds), [], [], ⟨start_entry (by rw [List.length_cons, List.length_cons, hv.len]), fun y hy => ?_, B, [], ?_, b0, h0, rfl, .nil⟩, hd.mono (fun fs ds k σ' H' ρ' hI => ?_) (fun e k B' cls d H' r hx σ => k B' cls d H' r hx) (hq a ds _ _ hw)⟩
    · unfold entry at hy
      rcases List.mem_append.mp hy with hy | hy
      · obtain ⟨d, _, e⟩ := List.mem_map.mp hy; exact .inr ⟨d, e.symm⟩
      · exact .inl (List.mem_replicate.mp hy).2
    · have hv2 : Rps K so B (V.ref a :: us) (selfD K c a :: ds) := .cons self_rp hv
      have r0 : Rel ⟨K, so, B, H, fun _ => E⟩ ((L2.start N (V.ref a :: us)).zip (entry N.length (selfD K c a :: ds))) H B := by
        refine Rel.entry e (fun q hq => ?_) (feet_still fun y hy => ?_) st
        · obtain ⟨i, hi⟩ := List.getElem?_of_mem hq
          rw [List.getElem?_zip_eq_some] at hi
          unfold L2.start entry at hi
          obtain ⟨q1, q2⟩ := q
          simp only [] at hi
          by_cases hl : i < (selfD K c a :: ds).length
          · have lv := hv2.len
            rw [List.getElem?_append_left (by simpa using (by omega : i < (V.ref a :: us).length)), List.getElem?_append_left (by simpa using hl), List.getElem?_map, List.getElem?_map] at hi
            obtain ⟨a1, a2⟩ := hi
            rw [Option.map_eq_some_iff] at a1 a2
            obtain ⟨v, g1, rfl⟩ := a1
            obtain ⟨d, g2, rfl⟩ := a2
            obtain ⟨v', g3, g4⟩ := hv2.get g2
            rw [g1] at g3
            cases g3
            exact g4
          · have a2 := hi.2
            rw [List.getElem?_append_right (by simpa using hl)] at a2
            have := (List.mem_replicate.mp (List.mem_of_getElem? a2)).2
            rw [this]
            cases q1 <;> trivial
        · unfold entry at hy
          rcases List.mem_append.mp hy with hy | hy
          · obtain ⟨d, _, e⟩ := List.mem_map.mp hy; exact .inr ⟨d, e.symm⟩
          · exact .inl (List.mem_replicate.mp hy).2
      exact r0.less fun b o q => by
        by_cases hb : b = a
        · subst hb; rw [cut_eq] at q; cases q
        · rw [cut_ne hb] at q; exact q
    · obtain ⟨l, still, B', vs, r, b', h', lf, hv'⟩ := hI
      refine k (fun z => by cases z) H' ⟨upd B' a (.ins (He.ga K c) dx (fs.zip vs)), ?_⟩
      have sB : Same B' (upd B' a (.ins (He.ga K c) dx (fs.zip vs))) := same_upd b'
      refine ⟨r.lo.trans sB, fun b o q => ?_, r.fr, fun b o q nn => ?_, fun q hq => ?_, by rw [feet_one]; exact List.nodup_nil, (fun p hp => by rw [feet_one] at hp; cases hp), fun s es => ?_⟩
      · by_cases hb : b = a
        · subst hb; rw [upd_same] at q; cases q; exact h'
        · rw [upd_ne hb] at q; exact r.hi b o q
      · by_cases hb : b = a
        · subst hb; exact absurd cut_eq nn
        · rw [upd_ne hb] at q; exact r.nw b o q nn
      · have eq : q = (some (.ref a), .sh (.ins c fs ds)) := by simpa using hq
        subst eq
        exact .ins (upd_same ..) lf (hv'.mono sB)
      · obtain ⟨t1, t2⟩ := r.st s es
        have : s ≠ a := fun z => hso (z ▸ es)
        exact ⟨by rw [upd_ne this]; exact t1, t2.mono sB rfl⟩
end
/-! ### promises of defs that stand at another name -/
section
variable {P : Program} {w : World} {K : PySem.W.Frag} {mg : Str → Option Value} {base : Heap} {x y qual : Str} {params : Arguments} {body : List Stmt} {scope : Scope} {f : Addr} {fd : FuncData}
theorem fdA_ok {N ps : List Str} {k : Nat} {W : DW1} (hW : MonoW W) (F : FunD K x qual params body scope [] [] f fd) (S : FnScope N ps scope) (hm : mg y = some (.ref f)) (hlen : ∀ ds Q E, W ds Q E → ds.length = ps.length)
    (hbd : ∀ (kV doc pm : Value) (an : Option Addr) (cdv ct : Value) (us : List Value), us.length = ps.length → bindArgs (PySem.W.fnOf x qual params body scope .none kV doc pm an cdv ct) ⟨us, []⟩ = pure (ps.zip us))
    (hb : ∀ (cdv : Value) (A : Around) (outer : List Env) (s : Shared) (H : Hp) (E : XK) (so : Option Addr) (B : Hp), Room k (A.deeper (envOfC qual scope s.heap.objs.size f cdv)) →
      L2N.Takes (cxD P w K mg base N qual scope f cdv A outer s H E) (fun cls d _ H => E cls d H) →
      ∃ wb, DSs ⟨K, so, B, H, fun _ => E⟩ (cxD P w K mg base N qual scope f cdv A outer s H E) body wb ∧ ∀ ds Q E', W ds Q E' → wb (bodyEnds Q) (entry N.length ds) (fun e _ => E' e)) :
    FD P w K mg base (k + 1) y ps.length W := ⟨hW, f, fd, ps, rfl, hm, F.kp, fn_body F S hlen hb, F.bindsN hbd⟩
theorem fdkA_ok {N ps ks : List Str} {js : List Nat} {k : Nat} {W : DW1} (hW : MonoW W) (F : FunD K x qual params body scope [] [] f fd) (S : FnScope N ps scope) (hm : mg y = some (.ref f)) (hlen : ∀ ds Q E, W ds Q E → ds.length = ps.length)
    (hbd : ∀ (kV doc pm : Value) (an : Option Addr) (cdv ct : Value) (ws : List Value), ws.length = ks.length → bindArgs (PySem.W.fnOf x qual params body scope .none kV doc pm an cdv ct) ⟨[], ks.zip ws⟩ = pure (ps.zip (permL js ws)))
    (hb : ∀ (cdv : Value) (A : Around) (outer : List Env) (s : Shared) (H : Hp) (E : XK) (so : Option Addr) (B : Hp), Room k (A.deeper (envOfC qual scope s.heap.objs.size f cdv)) →
      L2N.Takes (cxD P w K mg base N qual scope f cdv A outer s H E) (fun cls d _ H => E cls d H) →
      ∃ wb, DSs ⟨K, so, B, H, fun _ => E⟩ (cxD P w K mg base N qual scope f cdv A outer s H E) body wb ∧ ∀ ds Q E', W ds Q E' → wb (bodyEnds Q) (entry N.length ds) (fun e _ => E' e)) :
    FDK P w K mg base (k + 1) y ps.length ks js W := ⟨hW, f, fd, ps, rfl, hm, F.kp, fn_body F S hlen hb, bindsK F hbd⟩
theorem fdA_never {ps : List Str} {k : Nat} {W : DW1} (hW : ∀ ds Q E, ¬ W ds Q E) (F : FunD K x qual params body scope [] [] f fd) (hm : mg y = some (.ref f))
    (hbd : ∀ (kV doc pm : Value) (an : Option Addr) (cdv ct : Value) (us : List Value), us.length = ps.length → bindArgs (PySem.W.fnOf x qual params body scope .none kV doc pm an cdv ct) ⟨us, []⟩ = pure (ps.zip us)) : FD P w K mg base k y ps.length W :=
  ⟨fun _ _ _ _ _ _ _ h => (hW _ _ _ h).elim, f, fd, ps, rfl, hm, F.kp, ⟨fun vs H Q E ⟨so, B, ds, ln, _, _, hv, h⟩ => (hW _ _ _ h).elim, fun A outer s H args us vs Q E _ _ _ _ ⟨so, B, ds, ln, _, _, hv, h⟩ => (hW _ _ _ h).elim⟩, F.bindsN hbd⟩
end
/-! ### instances among the values that are asked of -/
def insF (ok : Str → Bool) (f : D → Option Bool) : D → Option Bool
  | .ins c _ _ => if ok c = true then some false else none
  | d => f d
theorem insF_ok {K : PySem.W.Frag} {ok : Str → Bool} {f : D → Option Bool} {u : Value} (O : ∀ c, ok c = true → InK K (He.ga K c) ∧ PySem.W.kitOne K (.ref (He.ga K c)) u = some false) (h : ∀ d b, f d = some b → Isi K d u b) : ∀ d b, insF ok f d = some b → Isi K d u b := by
  intro d b e
  cases d with
  | ins c fs ds =>
    have e2 : (if ok c = true then some false else none) = some b := e
    by_cases hc : ok c = true
    · rw [if_pos hc] at e2; cases e2; exact O c hc
    · rw [if_neg hc] at e2; cases e2
  | _ => exact h _ _ e
def isOwnX (ok : Str → Bool) (c : Str) : D → Option Bool
  | .ins c' fs ds => if c' = c then some true else if ok c' = true then some false else none
  | d => isOwn c d
theorem isOwnX_ok {K : PySem.W.Frag} {mg : Str → Option Value} {ok : Str → Bool} {c : Str} (o : OwnK K mg c) (O : ∀ c', ok c' = true → InK K (He.ga K c')) (Z : ∀ c', ok c' = true → c' ≠ c → PySem.W.kitOne K (.ref (He.ga K c')) (.ref (He.ga K c)) = some false) : ∀ d b, isOwnX ok c d = some b → Isi K d (.ref (He.ga K c)) b := by
  intro d b e
  cases d with
  | ins c' fs ds =>
    have e2 : (if c' = c then some true else if ok c' = true then some false else none) = some b := e
    by_cases hc : c' = c
    · rw [if_pos hc] at e2; cases e2; subst hc; exact ⟨o.ink, o.self⟩
    · rw [if_neg hc] at e2
      by_cases ho : ok c' = true
      · rw [if_pos ho] at e2; cases e2; exact ⟨O c' ho, Z c' ho hc⟩
      · rw [if_neg ho] at e2; cases e2
  | _ => exact o.is _ _ e
/-- what is known of the classes whose instances are among the values -/
structure InsK (K : PySem.W.Frag) (ok : Str → Bool) : Prop where
  ink : ∀ c, ok c = true → InK K (He.ga K c)
  own : ∀ c, ok c = true → ∀ t ∈ ["bool", "int", "str", "list", "tuple"], PySem.W.kitOne K (.ref (He.ga K c)) (.type t) = some false
  cross : ∀ c, ok c = true → ∀ c', ok c' = true → c' ≠ c → PySem.W.kitOne K (.ref (He.ga K c')) (.ref (He.ga K c)) = some false
theorem InsK.int {K : PySem.W.Frag} {ok : Str → Bool} (h : InsK K ok) : ∀ d b, insF ok isInt d = some b → Isi K d (.type "int") b := insF_ok (fun c hc => ⟨h.ink c hc, h.own c hc _ (by decide)⟩) isInt_ok
theorem InsK.bool {K : PySem.W.Frag} {ok : Str → Bool} (h : InsK K ok) : ∀ d b, insF ok isBool d = some b → Isi K d (.type "bool") b := insF_ok (fun c hc => ⟨h.ink c hc, h.own c hc _ (by decide)⟩) isBool_ok
theorem InsK.str {K : PySem.W.Frag} {ok : Str → Bool} (h : InsK K ok) : ∀ d b, insF ok isStr d = some b → Isi K d (.type "str") b := insF_ok (fun c hc => ⟨h.ink c hc, h.own c hc _ (by decide)⟩) isStr_ok
theorem InsK.lst {K : PySem.W.Frag} {ok : Str → Bool} (h : InsK K ok) : ∀ d b, insF ok isLst d = some b → Isi K d (.type "list") b := insF_ok (fun c hc => ⟨h.ink c hc, h.own c hc _ (by decide)⟩) isLst_ok
theorem InsK.tup {K : PySem.W.Frag} {ok : Str → Bool} (h : InsK K ok) : ∀ d b, insF ok isTup d = some b → Isi K d (.type "tuple") b := insF_ok (fun c hc => ⟨h.ink c hc, h.own c hc _ (by decide)⟩) isTup_ok
theorem InsK.cls {K : PySem.W.Frag} {mg : Str → Option Value} {ok : Str → Bool} (h : InsK K ok) {c : Str} (o : OwnK K mg c) (hc : ok c = true) : ∀ d b, isOwnX ok c d = some b → Isi K d (.ref (He.ga K c)) b := isOwnX_ok o h.ink (h.cross c hc)
/-- the check of it -/
def insB (K : PySem.W.Frag) (cs : List Str) : Bool := cs.all fun c => cs.all fun c' => c' == c || decide (PySem.W.kitOne K (.ref (ga K c')) (.ref (ga K c)) = some false)
theorem insB_ok {K : PySem.W.Frag} {mg : Str → Option Value} {cs : List Str} {ok : Str → Bool} (h : insB K cs = true) (hc : ∀ c, ok c = true → c ∈ cs) (O : ∀ c ∈ cs, OwnK K mg c) : InsK K ok :=
  ⟨fun c k => (O c (hc c k)).ink, fun c k => (O c (hc c k)).own, fun c k c' k' ne => by
    have h1 := List.all_eq_true.mp (List.all_eq_true.mp h c (hc c k)) c' (hc c' k')
    rw [Bool.or_eq_true] at h1
    rcases h1 with h1 | h1
    · exact absurd (beq_iff_eq.mp h1) ne
    · exact of_decide_eq_true h1⟩
end DL
set_option Elab.async false
set_option maxRecDepth 100000
set_option maxHeartbeats 0
set_option linter.unusedVariables false
/-! the head of law H44: the top's defs as data, the check, the run; printed by gen_head.py -/
namespace H44
open PySem PySem.Spec PyProof.Rows L2 NdefX He DL
def topS (i : Nat) : Stmt := PySem.Challenge.pw_bitshades_k44_votes_at_a_word.main.body.getD i (.Pass ⟨0, 0, 0, 0⟩)
def inS (i j : Nat) : Stmt := match topS i with | .ClassDef _ _ _ b _ _ _ _ _ _ _ => b.getD j (.Pass ⟨0, 0, 0, 0⟩) | _ => .Pass ⟨0, 0, 0, 0⟩
abbrev s_wall : Stmt := topS 0
abbrev s_check_integer_tables : Stmt := topS 17
abbrev s_check_between : Stmt := topS 19
abbrev s_check_width : Stmt := topS 20
abbrev s_check_word_tables : Stmt := topS 21
abbrev s_check_row : Stmt := topS 23
abbrev s_check_bits : Stmt := topS 24
abbrev s_holds_integer : Stmt := topS 27
abbrev s_check_bounds : Stmt := topS 28
abbrev s_check_table_pairs : Stmt := topS 29
abbrev s_counted_votes : Stmt := topS 32
abbrev s_votes_at : Stmt := topS 33
abbrev s_margin : Stmt := topS 34
abbrev s_check_kind_integer : Stmt := topS 37
abbrev s_check_integer_asking : Stmt := topS 38
abbrev s_check_word_asking : Stmt := topS 40
abbrev s_check_table_asking : Stmt := topS 42
abbrev s_law_mixed : Stmt := topS 46
abbrev s_law_wide : Stmt := topS 47
abbrev s_law_store : Stmt := topS 48
abbrev s_law_take : Stmt := topS 49
abbrev s_law_pick : Stmt := topS 50
abbrev s_law_same : Stmt := topS 51
abbrev s_law_copy : Stmt := topS 52
abbrev s_law_is_table : Stmt := topS 53
abbrev s_law_size : Stmt := topS 54
abbrev s_law_parity : Stmt := topS 55
abbrev s_law_width : Stmt := topS 56
abbrev s_law_word : Stmt := topS 57
abbrev s_law_bits_of : Stmt := topS 58
abbrev s_law_bits_up : Stmt := topS 59
abbrev s_law_bits : Stmt := topS 60
abbrev s_law_number_fault : Stmt := topS 61
abbrev s_law_first_fault : Stmt := topS 62
abbrev s_law_odd_number : Stmt := topS 63
abbrev s_law_kinds : Stmt := topS 64
abbrev s_law_refusal : Stmt := topS 65
abbrev s_law_told : Stmt := topS 66
abbrev s_law_odd_table : Stmt := topS 67
abbrev s_law_ask : Stmt := topS 68
abbrev s_law_votes : Stmt := topS 69
abbrev s_law_due : Stmt := topS 70
abbrev s_law_here : Stmt := topS 71
abbrev s_law_call : Stmt := topS 72
abbrev s_law : Stmt := topS 73
def d_wall : DefD := ⟨("_wall", none), "_wall", "_wall", defArgs s_wall, defBody s_wall, defScope s_wall, [], []⟩
def d_check_integer_tables : DefD := ⟨("check_integer_tables", none), "check_integer", "check_integer", defArgs s_check_integer_tables, defBody s_check_integer_tables, defScope s_check_integer_tables, [], []⟩
def d_check_between : DefD := ⟨("check_between", none), "check_between", "check_between", defArgs s_check_between, defBody s_check_between, defScope s_check_between, [], []⟩
def d_check_width : DefD := ⟨("check_width", none), "check_width", "check_width", defArgs s_check_width, defBody s_check_width, defScope s_check_width, [], []⟩
def d_check_word_tables : DefD := ⟨("check_word_tables", none), "check_word", "check_word", defArgs s_check_word_tables, defBody s_check_word_tables, defScope s_check_word_tables, [], []⟩
def d_check_row : DefD := ⟨("check_row", none), "check_row", "check_row", defArgs s_check_row, defBody s_check_row, defScope s_check_row, [], []⟩
def d_check_bits : DefD := ⟨("check_bits", none), "check_bits", "check_bits", defArgs s_check_bits, defBody s_check_bits, defScope s_check_bits, [], []⟩
def d_holds_integer : DefD := ⟨("holds_integer", none), "holds_integer", "holds_integer", defArgs s_holds_integer, defBody s_holds_integer, defScope s_holds_integer, [], []⟩
def d_check_bounds : DefD := ⟨("check_bounds", none), "check_bounds", "check_bounds", defArgs s_check_bounds, defBody s_check_bounds, defScope s_check_bounds, [], []⟩
def d_check_table_pairs : DefD := ⟨("check_table_pairs", none), "check_table", "check_table", defArgs s_check_table_pairs, defBody s_check_table_pairs, defScope s_check_table_pairs, [], []⟩
def d_counted_votes : DefD := ⟨("counted_votes", none), "counted_votes", "counted_votes", defArgs s_counted_votes, defBody s_counted_votes, defScope s_counted_votes, [], []⟩
def d_votes_at : DefD := ⟨("votes_at", none), "votes_at", "votes_at", defArgs s_votes_at, defBody s_votes_at, defScope s_votes_at, [], []⟩
def d_margin : DefD := ⟨("margin", none), "margin", "margin", defArgs s_margin, defBody s_margin, defScope s_margin, [], []⟩
def d_check_kind_integer : DefD := ⟨("check_kind_integer", none), "check_kind_integer", "check_kind_integer", defArgs s_check_kind_integer, defBody s_check_kind_integer, defScope s_check_kind_integer, [], []⟩
def d_check_integer_asking : DefD := ⟨("check_integer_asking", none), "check_integer", "check_integer", defArgs s_check_integer_asking, defBody s_check_integer_asking, defScope s_check_integer_asking, [], []⟩
def d_check_word_asking : DefD := ⟨("check_word_asking", none), "check_word", "check_word", defArgs s_check_word_asking, defBody s_check_word_asking, defScope s_check_word_asking, [], []⟩
def d_check_table_asking : DefD := ⟨("check_table_asking", none), "check_table", "check_table", defArgs s_check_table_asking, defBody s_check_table_asking, defScope s_check_table_asking, [], []⟩
def d_law_mixed : DefD := ⟨("_law_mixed", none), "_law_mixed", "_law_mixed", defArgs s_law_mixed, defBody s_law_mixed, defScope s_law_mixed, [], []⟩
def d_law_wide : DefD := ⟨("_law_wide", none), "_law_wide", "_law_wide", defArgs s_law_wide, defBody s_law_wide, defScope s_law_wide, [], []⟩
def d_law_store : DefD := ⟨("_law_store", none), "_law_store", "_law_store", defArgs s_law_store, defBody s_law_store, defScope s_law_store, [], []⟩
def d_law_take : DefD := ⟨("_law_take", none), "_law_take", "_law_take", defArgs s_law_take, defBody s_law_take, defScope s_law_take, [], []⟩
def d_law_pick : DefD := ⟨("_law_pick", none), "_law_pick", "_law_pick", defArgs s_law_pick, defBody s_law_pick, defScope s_law_pick, [], []⟩
def d_law_same : DefD := ⟨("_law_same", none), "_law_same", "_law_same", defArgs s_law_same, defBody s_law_same, defScope s_law_same, [], []⟩
def d_law_copy : DefD := ⟨("_law_copy", none), "_law_copy", "_law_copy", defArgs s_law_copy, defBody s_law_copy, defScope s_law_copy, [], []⟩
def d_law_is_table : DefD := ⟨("_law_is_table", none), "_law_is_table", "_law_is_table", defArgs s_law_is_table, defBody s_law_is_table, defScope s_law_is_table, [], []⟩
def d_law_size : DefD := ⟨("_law_size", none), "_law_size", "_law_size", defArgs s_law_size, defBody s_law_size, defScope s_law_size, [], []⟩
def d_law_parity : DefD := ⟨("_law_parity", none), "_law_parity", "_law_parity", defArgs s_law_parity, defBody s_law_parity, defScope s_law_parity, [], []⟩
def d_law_width : DefD := ⟨("_law_width", none), "_law_width", "_law_width", defArgs s_law_width, defBody s_law_width, defScope s_law_width, [], []⟩
def d_law_word : DefD := ⟨("_law_word", none), "_law_word", "_law_word", defArgs s_law_word, defBody s_law_word, defScope s_law_word, [], []⟩
def d_law_bits_of : DefD := ⟨("_law_bits_of", none), "_law_bits_of", "_law_bits_of", defArgs s_law_bits_of, defBody s_law_bits_of, defScope s_law_bits_of, [], []⟩
def d_law_bits_up : DefD := ⟨("_law_bits_up", none), "_law_bits_up", "_law_bits_up", defArgs s_law_bits_up, defBody s_law_bits_up, defScope s_law_bits_up, [], []⟩
def d_law_bits : DefD := ⟨("_law_bits", none), "_law_bits", "_law_bits", defArgs s_law_bits, defBody s_law_bits, defScope s_law_bits, [], []⟩
def d_law_number_fault : DefD := ⟨("_law_number_fault", none), "_law_number_fault", "_law_number_fault", defArgs s_law_number_fault, defBody s_law_number_fault, defScope s_law_number_fault, [], []⟩
def d_law_first_fault : DefD := ⟨("_law_first_fault", none), "_law_first_fault", "_law_first_fault", defArgs s_law_first_fault, defBody s_law_first_fault, defScope s_law_first_fault, [], []⟩
def d_law_odd_number : DefD := ⟨("_law_odd_number", none), "_law_odd_number", "_law_odd_number", defArgs s_law_odd_number, defBody s_law_odd_number, defScope s_law_odd_number, [], []⟩
def d_law_kinds : DefD := ⟨("_law_kinds", none), "_law_kinds", "_law_kinds", defArgs s_law_kinds, defBody s_law_kinds, defScope s_law_kinds, [], []⟩
def d_law_refusal : DefD := ⟨("_law_refusal", none), "_law_refusal", "_law_refusal", defArgs s_law_refusal, defBody s_law_refusal, defScope s_law_refusal, [], []⟩
def d_law_told : DefD := ⟨("_law_told", none), "_law_told", "_law_told", defArgs s_law_told, defBody s_law_told, defScope s_law_told, [], []⟩
def d_law_odd_table : DefD := ⟨("_law_odd_table", none), "_law_odd_table", "_law_odd_table", defArgs s_law_odd_table, defBody s_law_odd_table, defScope s_law_odd_table, [], []⟩
def d_law_ask : DefD := ⟨("_law_ask", none), "_law_ask", "_law_ask", defArgs s_law_ask, defBody s_law_ask, defScope s_law_ask, [], []⟩
def d_law_votes : DefD := ⟨("_law_votes", none), "_law_votes", "_law_votes", defArgs s_law_votes, defBody s_law_votes, defScope s_law_votes, [], []⟩
def d_law_due : DefD := ⟨("_law_due", none), "_law_due", "_law_due", defArgs s_law_due, defBody s_law_due, defScope s_law_due, [], []⟩
def d_law_here : DefD := ⟨("_law_here", none), "_law_here", "_law_here", defArgs s_law_here, defBody s_law_here, defScope s_law_here, [], []⟩
def d_law_call : DefD := ⟨("_law_call", none), "_law_call", "_law_call", defArgs s_law_call, defBody s_law_call, defScope s_law_call, [], []⟩
def d_law : DefD := ⟨("law", none), "law", "law", defArgs s_law, defBody s_law, defScope s_law, [], []⟩
def i_WrongKind : DefV := ⟨⟨("WrongKind", some "__init__"), "__init__", "WrongKind.__init__", defArgs (inS 3 0), defBody (inS 3 0), defScope (inS 3 0), [], []⟩, ["__class__"]⟩
def i_WrongSize : DefV := ⟨⟨("WrongSize", some "__init__"), "__init__", "WrongSize.__init__", defArgs (inS 4 0), defBody (inS 4 0), defScope (inS 4 0), [], []⟩, ["__class__"]⟩
def i_OutOfRange : DefV := ⟨⟨("OutOfRange", some "__init__"), "__init__", "OutOfRange.__init__", defArgs (inS 5 0), defBody (inS 5 0), defScope (inS 5 0), [], []⟩, ["__class__"]⟩
def i_BadText : DefV := ⟨⟨("BadText", some "__init__"), "__init__", "BadText.__init__", defArgs (inS 6 0), defBody (inS 6 0), defScope (inS 6 0), [], []⟩, ["__class__"]⟩
def i_Spent : DefV := ⟨⟨("Spent", some "__init__"), "__init__", "Spent.__init__", defArgs (inS 8 0), defBody (inS 8 0), defScope (inS 8 0), [], []⟩, ["__class__"]⟩
def i_TooFewPlaces : DefV := ⟨⟨("TooFewPlaces", some "__init__"), "__init__", "TooFewPlaces.__init__", defArgs (inS 9 0), defBody (inS 9 0), defScope (inS 9 0), [], []⟩, ["__class__"]⟩
def i_WrongPaper : DefV := ⟨⟨("WrongPaper", some "__init__"), "__init__", "WrongPaper.__init__", defArgs (inS 10 0), defBody (inS 10 0), defScope (inS 10 0), [], []⟩, ["__class__"]⟩
def i_UnknownName : DefV := ⟨⟨("UnknownName", some "__init__"), "__init__", "UnknownName.__init__", defArgs (inS 11 0), defBody (inS 11 0), defScope (inS 11 0), [], []⟩, ["__class__"]⟩
def i_NameTaken : DefV := ⟨⟨("NameTaken", some "__init__"), "__init__", "NameTaken.__init__", defArgs (inS 12 0), defBody (inS 12 0), defScope (inS 12 0), [], []⟩, ["__class__"]⟩
def fn : List DefV := [⟨d_wall, []⟩, ⟨d_check_integer_tables, []⟩, ⟨d_check_between, []⟩, ⟨d_check_width, []⟩, ⟨d_check_word_tables, []⟩, ⟨d_check_row, []⟩, ⟨d_check_bits, []⟩, ⟨d_holds_integer, []⟩, ⟨d_check_bounds, []⟩, ⟨d_check_table_pairs, []⟩, ⟨d_counted_votes, []⟩, ⟨d_votes_at, []⟩, ⟨d_margin, []⟩, ⟨d_check_kind_integer, []⟩, ⟨d_check_integer_asking, []⟩, ⟨d_check_word_asking, []⟩, ⟨d_check_table_asking, []⟩, ⟨d_law_mixed, []⟩, ⟨d_law_wide, []⟩, ⟨d_law_store, []⟩, ⟨d_law_take, []⟩, ⟨d_law_pick, []⟩, ⟨d_law_same, []⟩, ⟨d_law_copy, []⟩, ⟨d_law_is_table, []⟩, ⟨d_law_size, []⟩, ⟨d_law_parity, []⟩, ⟨d_law_width, []⟩, ⟨d_law_word, []⟩, ⟨d_law_bits_of, []⟩, ⟨d_law_bits_up, []⟩, ⟨d_law_bits, []⟩, ⟨d_law_number_fault, []⟩, ⟨d_law_first_fault, []⟩, ⟨d_law_odd_number, []⟩, ⟨d_law_kinds, []⟩, ⟨d_law_refusal, []⟩, ⟨d_law_told, []⟩, ⟨d_law_odd_table, []⟩, ⟨d_law_ask, []⟩, ⟨d_law_votes, []⟩, ⟨d_law_due, []⟩, ⟨d_law_here, []⟩, ⟨d_law_call, []⟩, ⟨d_law, []⟩, i_WrongKind, i_WrongSize, i_OutOfRange, i_BadText, i_Spent, i_TooFewPlaces, i_WrongPaper, i_UnknownName, i_NameTaken]
def m_Table_init : MemD := ⟨"Table", "__init__", false, "__init__", "Table.__init__", defArgs (inS 25 0), defBody (inS 25 0), defScope (inS 25 0), []⟩
def m_Table_width : MemD := ⟨"Table", "width", true, "width", "Table.width", defArgs (inS 25 3), defBody (inS 25 3), defScope (inS 25 3), []⟩
def m_Table_bits : MemD := ⟨"Table", "bits", true, "bits", "Table.bits", defArgs (inS 25 4), defBody (inS 25 4), defScope (inS 25 4), []⟩
def m_Table_ones : MemD := ⟨"Table", "ones", true, "ones", "Table.ones", defArgs (inS 25 5), defBody (inS 25 5), defScope (inS 25 5), []⟩
def m_Table_number : MemD := ⟨"Table", "number", true, "number", "Table.number", defArgs (inS 25 6), defBody (inS 25 6), defScope (inS 25 6), []⟩
def m_Table_len : MemD := ⟨"Table", "__len__", false, "__len__", "Table.__len__", defArgs (inS 25 9), defBody (inS 25 9), defScope (inS 25 9), []⟩
def m_Table_getitem : MemD := ⟨"Table", "__getitem__", false, "__getitem__", "Table.__getitem__", defArgs (inS 25 10), defBody (inS 25 10), defScope (inS 25 10), []⟩
def m_Table_eq : MemD := ⟨"Table", "__eq__", false, "__eq__", "Table.__eq__", defArgs (inS 25 12), defBody (inS 25 12), defScope (inS 25 12), []⟩
def m_Table_add : MemD := ⟨"Table", "__add__", false, "__add__", "Table.__add__", defArgs (inS 25 13), defBody (inS 25 13), defScope (inS 25 13), []⟩
def m_Table_and : MemD := ⟨"Table", "__and__", false, "__and__", "Table.__and__", defArgs (inS 25 14), defBody (inS 25 14), defScope (inS 25 14), []⟩
def m_Table_invert : MemD := ⟨"Table", "__invert__", false, "__invert__", "Table.__invert__", defArgs (inS 25 15), defBody (inS 25 15), defScope (inS 25 15), []⟩
def m_Table_str : MemD := ⟨"Table", "__str__", false, "__str__", "Table.__str__", defArgs (inS 25 16), defBody (inS 25 16), defScope (inS 25 16), []⟩
def m_Asked_init : MemD := ⟨"Asked", "__init__", false, "__init__", "Asked.__init__", defArgs (inS 44 0), defBody (inS 44 0), defScope (inS 44 0), [("limit", .non)]⟩
def m_Asked_width : MemD := ⟨"Asked", "width", true, "width", "Asked.width", defArgs (inS 44 1), defBody (inS 44 1), defScope (inS 44 1), []⟩
def m_Asked_limit : MemD := ⟨"Asked", "limit", true, "limit", "Asked.limit", defArgs (inS 44 2), defBody (inS 44 2), defScope (inS 44 2), []⟩
def m_Asked_asks : MemD := ⟨"Asked", "asks", true, "asks", "Asked.asks", defArgs (inS 44 3), defBody (inS 44 3), defScope (inS 44 3), []⟩
def m_Asked_ask : MemD := ⟨"Asked", "ask", false, "ask", "Asked.ask", defArgs (inS 44 4), defBody (inS 44 4), defScope (inS 44 4), []⟩
def ms : List MemD := [m_Table_init, m_Table_width, m_Table_bits, m_Table_ones, m_Table_number, m_Table_len, m_Table_getitem, m_Table_eq, m_Table_add, m_Table_and, m_Table_invert, m_Table_str, m_Asked_init, m_Asked_width, m_Asked_limit, m_Asked_asks, m_Asked_ask]
def file : Str := PySem.Challenge.pw_bitshades_k44_votes_at_a_word.main.file
def errs : List Str := ["ShadeError", "WrongKind", "WrongSize", "OutOfRange", "BadText", "NotATable", "Spent", "TooFewPlaces", "WrongPaper", "UnknownName", "NameTaken", "NothingToUndo", "BookFull"]
def inis : List Str := ["WrongKind", "WrongSize", "OutOfRange", "BadText", "Spent", "TooFewPlaces", "WrongPaper", "UnknownName", "NameTaken"]
def ck1 (K : PySem.W.Frag) : Bool := errs.all (errB K)
def ck2 (K : PySem.W.Frag) : Bool := inis.all (iniB K file)
def ck3 (K : PySem.W.Frag) : Bool := errs.all fun c => errs.all fun e => decide (PySem.W.kitOne K (.ref (ga K c)) (.ref (ga K e)) = some (c == e || e == "ShadeError"))
def ck4 (K : PySem.W.Frag) : Bool := errs.all fun c => decide (PySem.W.kitOne K (.ref (ga K c)) (.type "ValueError") = some true)
def free : List Str := ["ValueError", "bool", "int", "isinstance", "iter", "len", "list", "max", "min", "range", "str", "sum", "super", "tuple", "zip"]
def ck5 (K : PySem.W.Frag) : Bool := free.all fun x => (Fa.free x).ok K
def ck6 (K : PySem.W.Frag) : Bool := (fn.filter fun d => d.free.isEmpty).all fun d => (Fa.glo d.d.at_.1).ok K
def cons : List Fa := [Fa.int "MOST_WIDTH" 6, Fa.int "MOST_LIMIT" 10000]
def ck7 (K : PySem.W.Frag) : Bool := cons.all fun f => f.ok K
def ck10 (K : PySem.W.Frag) : Bool := ndB K
def ck8 (K : PySem.W.Frag) : Bool := eqO (PySem.W.nsIn K cStatics "thirdparty.any") (some none)
def nini : List Str := ["NotATable", "NothingToUndo", "BookFull"]
def ck9 (K : PySem.W.Frag) : Bool := nini.all (ernB K)
def owns : List Str := ["Table", "Asked"]
def ck11 (K : PySem.W.Frag) : Bool := owns.all (ownB K) && (ms.all (memB K) && ([("Table", "wide"), ("Table", "held"), ("Asked", "held_table"), ("Asked", "held_limit"), ("Asked", "held_words")] : List (Str × Str)).all fun q => (Fa.noat q.1 q.2).ok K)
def ck13 (K : PySem.W.Frag) : Bool := insB K owns
def ck12 (K : PySem.W.Frag) : Bool := ck1 K && (ck2 K && (ck3 K && (ck4 K && (ck5 K && (ck6 K && (ck7 K && (ck8 K && (ck9 K && ck10 K))))))))
def ck (K : PySem.W.Frag) : Bool := ck12 K && (ck11 K && ck13 K)
abbrev R : PySem.W.OpenRow := PySem.W.OpenLaw.row PySem.Challenge.rw_bitshades_k44_votes_at_a_word
/-! the addresses that are looked at, found level by level; those seen are the bits of a number -/
section
open HandSHeadRun
def refsG (g : Addr → Option Obj) (a : Addr) : List Addr := match g a with
  | some o => refsD o
  | none => []
def addB {α : Type} (l : List Addr) (m : Nat) (bs : List Addr) (k : Nat → List Addr → α) : α := match bs with
  | [] => k m l
  | b :: r => frNat b fun b => match Nat.testBit m b with
    | true => addB l m r k
    | false => frNat (m ||| (1 <<< b)) fun m => addB (b :: l) m r k
def stepB {α : Type} (g : Addr → Option Obj) (m : Nat) (fr new : List Addr) (k : Nat → List Addr → α) : α := match fr with
  | [] => k m new
  | a :: r => addB new m (refsG g a) fun m new => stepB g m r new k
def bfsB (g : Addr → Option Obj) : Nat → Nat → List Addr → List Addr → List Addr
  | 0, _, _, acc => acc
  | n + 1, m, fr, acc => stepB g m fr [] fun m new => bfsB g n m new (acc ++ new)
def asB (g : Addr → Option Obj) : List Addr := cStatics :: bfsB g 5 (1 <<< mainGlobals) [mainGlobals] [mainGlobals]
def obsB (g : Addr → Option Obj) : AlP := obsY ck fn ms (frG g (asB g))
abbrev hk : PySem.W.Hook where
  α := AlP
  obs := fun s => obsB s.heap.get?
  val := fun _ => valY fn ms
  says := fun _ h => ∃ K : PySem.W.Frag, K.In h ∧ SaysY ck fn ms K
  of := fun _ _ e => ⟨_, frG_in, e⟩
  keeps := fun _ _ _ ⟨K, hK, c⟩ k => ⟨K, PySem.W.Frag.In.keeps hK k, c⟩
def ob (s : PySem.W.SharedT) : AlP := obsB (getT s)
theorem ob_eq (s : PySem.W.SharedT) : ob s = hk.obs s.abs := by
  have e : getT s = s.abs.heap.get? := funext (getT_eq s)
  show obsB (getT s) = obsB s.abs.heap.get?
  rw [e]
end
def loose0 : List PySem.Str := ["_wall", "ShadeError", "WrongKind", "WrongSize", "OutOfRange", "BadText", "NotATable", "Spent", "TooFewPlaces", "WrongPaper", "UnknownName", "NameTaken", "NothingToUndo", "BookFull", "MOST_WIDTH", "check_integer", "check_integer_tables", "check_between", "check_width", "check_word", "check_word_tables", "check_row", "check_bits", "Table", "holds_integer", "check_bounds", "check_table", "check_table_pairs", "counted_votes", "votes_at"]
def loose1 : List PySem.Str := ["margin", "MOST_LIMIT", "check_kind_integer", "check_integer", "check_integer_asking", "check_word", "check_word_asking", "check_table", "check_table_asking", "Asked", "_law_mixed", "_law_wide", "_law_store", "_law_take", "_law_pick", "_law_same", "_law_copy", "_law_is_table", "_law_size", "_law_parity", "_law_width", "_law_word", "_law_bits_of", "_law_bits_up", "_law_bits", "_law_number_fault", "_law_first_fault", "_law_odd_number", "_law_kinds", "_law_refusal"]
def loose2 : List PySem.Str := ["_law_told", "_law_odd_table", "_law_ask", "_law_votes", "_law_due", "_law_here", "_law_call"]
def loose : List PySem.Str := loose0 ++ loose1 ++ loose2
abbrev qv : Program := PySem.W.view R.prog [73]
/-! the run, looked at part by part: one look at a time holds less memory -/
section
open HandSHeadRun PySem.W
theorem both {α β γ : Type} {x : Option α} {f : α → β} {g : α → γ} {a : β} {b : γ} (h1 : x.map f = some a) (h2 : x.map g = some b) : x.map (fun s => (f s, g s)) = some (a, b) := by
  cases x with
  | none => cases h1
  | some s => injection h1 with h1; injection h2 with h2; rw [Option.map_some, h1, h2]
noncomputable def end_ (w : World) (os : OsState) : Option SharedT := endF (stepQ (denQ tabQ) R.prog w) 12000 R.prog w os
theorem run1 (w : World) (os : OsState) : (end_ w os).map (fun s => looksF R.prog (boot_heap w.params) s.abs) = some true := by kernel_rfl
theorem run2 (w : World) (os : OsState) : (end_ w os).map (fun s => seenQ qv loose (importedModules R.prog.main.body) (fun s => xlAt qv [] s && recOk R.toRowW.records s) s.abs) = some (openGood qv loose) := by kernel_rfl
theorem run3 (w : World) (os : OsState) : (end_ w os).map ob = some (hk.val w) := by kernel_rfl
theorem run (w : World) : HandSHeadRun.RunEq R qv hk ob 12000 loose w := fun os => both (run1 w os) (both (run2 w os) (run3 w os))
end
end H44
set_option Elab.async false
set_option maxRecDepth 100000
set_option maxHeartbeats 1000000
set_option linter.unusedVariables false
/-! promises of the defs that many laws share, and of the fractions -/
namespace C
open PySem PySem.Spec PyProof.Rows L2 NdefX DL
/-- the kinds that the laws hand about: some b where b tells an int that is no bool -/
def isI : D → Option Bool
  | .int _ => some true
  | .non => some false
  | .bl _ => some false
  | .str _ => some false
  | .lst _ => some false
  | .tup _ => some false
  | .dic _ _ => some false
  | _ => none
def Bd (n : Nat) (i : Int) : Prop := i.natAbs < 2 ^ n
abbrev Er1 (c : Str) (z : Str) : Er := ⟨c, some (.str z)⟩
/-! ### draws -/
abbrev intW (P : List D → Prop) (R : List D → Int → Prop) : DW1 := WG P (fun ds z => ∃ r, z = .sh (.int r) ∧ R ds r) noX
def W_law_mixed : DW1 := intW (fun ds => ∃ c n, ds = [.int c, .int n]) fun _ r => 0 ≤ r ∧ r < 2147483399
def W_law_wide : DW1 := intW (fun ds => ∃ c n m, ds = [.int c, .int n, .int m] ∧ 1 ≤ m ∧ Bd 100000 m) fun ds r => ∃ c n m, ds = [.int c, .int n, .int m] ∧ 0 ≤ r ∧ r < m
def W_law_take : DW1 := intW (fun ds => ∃ m, ds = [.sto, .int m] ∧ Bd 8999 m) fun ds r => ∃ m, ds = [.sto, .int m] ∧ 0 ≤ r ∧ (r < m ∨ r = 0)
def W_law_near : DW1 := intW (fun ds => ∃ a b, ds = [.sto, .int a, .int b] ∧ a ≤ b ∧ Bd 8000 a ∧ Bd 8000 b) fun ds r => ∃ a b, ds = [.sto, .int a, .int b] ∧ a ≤ r ∧ r ≤ b
def W_law_ten : DW1 := intW (fun ds => ∃ n, ds = [.int n] ∧ 0 ≤ n ∧ n ≤ 1000) fun ds r => ∃ n, ds = [.int n] ∧ r = 10 ^ n.toNat
def W_law_integer : DW1 := intW (fun ds => ∃ n, ds = [.sto, .int n] ∧ 2 ≤ n ∧ n ≤ 1000) fun ds r => ∃ n, ds = [.sto, .int n] ∧ r.natAbs < 10 ^ n.toNat
/-! ### checks -/
def f_check_integer : List D → Option (Except Er D)
  | [d, .str z] => if z.length ≤ 1000 then (isI d).map fun b => if b then .ok .non else .error (Er1 "WrongKind" z) else none
  | _ => none
def W_check_integer : DW1 := WF f_check_integer
def betw (i lo hi : Int) : Bool := decide (lo ≤ i) && decide (i ≤ hi)
def f_check_between : List D → Option (Except Er D)
  | [d, .int lo, .int hi, .str z] => if z.length ≤ 1000 then (match d with
    | .int i => some (if betw i lo hi then .ok .non else .error (Er1 "OutOfRange" z))
    | d => (isI d).map fun _ => .error (Er1 "WrongKind" z)) else none
  | _ => none
def W_check_between : DW1 := WF f_check_between
/-- a value beside a fraction: what is wrong with it -/
def frF : D → Option (Option Str)
  | .tup [a, b] => (match isI a, isI b with
    | some true, some true => (match b with | .int j => some (if 1 ≤ j then none else some "OutOfRange") | _ => none)
    | some _, some _ => some (some "WrongKind")
    | _, _ => none)
  | .tup _ => some (some "WrongSize")
  | d => (isI d).map fun _ => some "WrongKind"
def f_check_fraction : List D → Option (Except Er D)
  | [d, .str z] => if z.length ≤ 1000 then (frF d).map fun o => (match o with | none => .ok .non | some c => .error (Er1 c z)) else none
  | _ => none
def W_check_fraction : DW1 := WF f_check_fraction
/-! ### fractions -/
def ratD (r : Rat) : D := .tup [.int r.num, .int r.den]
def RB (n : Nat) (r : Rat) : Prop := Bd n r.num ∧ r.den < 2 ^ n
def W_common_divisor : DW1 := WG (fun ds => ∃ a b, ds = [.int a, .int b]) (fun ds z => ∃ a b, ds = [.int a, .int b] ∧ z = .sh (.int (Int.gcd a b))) noX
def W_lowest : DW1 := WG (fun ds => ∃ a b, ds = [.int a, .int b] ∧ b ≠ 0 ∧ Bd 8999 b) (fun ds z => ∃ a b, ds = [.int a, .int b] ∧ z = .sh (ratD (Rat.divInt a b))) noX
def W_plus : DW1 := WG (fun ds => ∃ r s, ds = [ratD r, ratD s] ∧ RB 8999 r ∧ RB 8999 s) (fun ds z => ∃ r s, ds = [ratD r, ratD s] ∧ z = .sh (ratD (r + s))) noX
def W_times : DW1 := WG (fun ds => ∃ r s, ds = [ratD r, ratD s] ∧ RB 8999 r ∧ RB 8999 s) (fun ds z => ∃ r s, ds = [ratD r, ratD s] ∧ z = .sh (ratD (r * s))) noX
def W_reduced : DW1 := WG (fun ds => ∃ a b, ds = [.tup [.int a, .int b]] ∧ 1 ≤ b ∧ Bd 8999 b) (fun ds z => ∃ a b, ds = [.tup [.int a, .int b]] ∧ z = .sh (ratD (Rat.divInt a b))) noX
/-- the value of a fraction's tuple -/
def valF : D → Rat
  | .tup [.int a, .int b] => Rat.divInt a b
  | _ => 0
def BdF (n : Nat) : D → Prop
  | .tup [.int a, .int b] => Bd n a ∧ Bd n b
  | _ => True
/-- a function of two fractions: the first fault, else f -/
def two (op : Rat → Rat → Option Rat) (ds : List D) : Option (Except Er D) := match ds with
  | [x, y] => (match frF x, frF y with
    | some (some c), some _ => some (.error (Er1 c "first"))
    | some none, some (some c) => some (.error (Er1 c "second"))
    | some none, some none => some (match op (valF x) (valF y) with | some r => .ok (ratD r) | none => .error (Er1 "OutOfRange" "second"))
    | _, _ => none)
  | _ => none
def WB (n : Nat) (f : List D → Option (Except Er D)) : DW1 := fun ds Q E => (∀ d ∈ ds, BdF n d) ∧ WF f ds Q E
theorem WB_mono {n : Nat} {f : List D → Option (Except Er D)} : MonoW (WB n f) := fun ds _ _ _ _ hq he h => ⟨h.1, WF_mono hq he h.2⟩
def W_ratio_sum : DW1 := WB 4498 (two fun r s => some (r + s))
def W_ratio_difference : DW1 := WB 4498 (two fun r s => some (r - s))
def W_ratio_product : DW1 := WB 4498 (two fun r s => some (r * s))
def W_ratio_quotient : DW1 := WB 4498 (two fun r s => if s = 0 then none else some (r / s))
def f_ratio_power : List D → Option (Except Er D)
  | [x, e] => (match frF x, isI e with
    | some (some c), some _ => some (.error (Er1 c "base"))
    | some none, some false => some (.error (Er1 "WrongKind" "exponent"))
    | some none, some true => (match e with | .int j => some (if betw j 0 64 then .ok (ratD (valF x ^ j.toNat)) else .error (Er1 "OutOfRange" "exponent")) | _ => none)
    | _, _ => none)
  | _ => none
def W_ratio_power : DW1 := WB 134 f_ratio_power
/-! ### the law's own helpers -/
def W_law_is_integer : DW1 := WF fun ds => match ds with | [d] => (isI d).map fun b => .ok (.bl b) | _ => none
def W_law_is_pair : DW1 := WF fun ds => match ds with | [.tup [.int _, .int _]] => some (.ok (.bl true)) | _ => none
def fltN (d lo hi : D) : Option Str := match d with
  | .int i => (match lo, hi with
    | .non, .non => some ""
    | .int a, .non => some (if i < a then "OutOfRange" else "")
    | .non, .int b => some (if b < i then "OutOfRange" else "")
    | .int a, .int b => some (if i < a ∨ b < i then "OutOfRange" else "")
    | _, _ => none)
  | d => (isI d).map fun _ => "WrongKind"
def W_law_number_fault : DW1 := WF fun ds => match ds with | [d, lo, hi] => (fltN d lo hi).map fun z => .ok (.str z) | _ => none
def strO : Option Str → Str
  | none => ""
  | some c => c
def W_law_fraction_fault : DW1 := WF fun ds => match ds with | [d] => (frF d).map fun o => .ok (.str (strO o)) | _ => none
def firstF : List D → Option D
  | [] => some .non
  | .tup [.str n, .str f] :: r => if PyData.canLay0 (.str f) = true then (if f = "" then firstF r else some (.tup [.str f, .str n])) else none
  | _ => none
def W_law_first_fault : DW1 := WF fun ds => match ds with | [.lst l] => (firstF l).map .ok | _ => none
/-- data that equals itself -/
def pl : Nat → D → Bool
  | 0, _ => false
  | _ + 1, .non => true
  | _ + 1, .bl _ => true
  | _ + 1, .int _ => true
  | _ + 1, .str z => PyData.canLay0 (.str z)
  | _ + 1, .dic [] [] => true
  | n + 1, .lst l => decide (l.length ≤ 100000) && l.all (pl n)
  | n + 1, .tup l => decide (l.length ≤ 100000) && l.all (pl n)
  | _ + 1, _ => false
/-- data that may be copied -/
def pd : Nat → D → Bool
  | 0, _ => false
  | _ + 1, .non => true
  | _ + 1, .bl _ => true
  | _ + 1, .int _ => true
  | _ + 1, .str _ => true
  | _ + 1, .dic _ _ => true
  | n + 1, .lst l => decide (l.length ≤ 1000) && l.all (pd n)
  | n + 1, .tup l => decide (l.length ≤ 1000) && l.all (pd n)
  | _ + 1, _ => false
/-- a small value of any kind -/
def Odd (n : Nat) (d : D) : Prop := (isI d).isSome = true ∧ (∀ i, d = .int i → Bd n i) ∧ ∀ a b, d ≠ .tup [.int a, .int b]
def W_law_odd_number : DW1 := WG (fun ds => ∃ lo hi, ds = [.sto, lo, hi] ∧ (lo = .non ∨ ∃ a, lo = .int a ∧ Bd 200 a) ∧ (hi = .non ∨ ∃ b, hi = .int b ∧ Bd 200 b)) (fun _ z => ∃ d, z = .sh d ∧ Odd 210 d ∧ pl 4 d = true ∧ pd 3 d = true) noX
def OddF (n : Nat) (d : D) : Prop := (frF d).isSome = true ∧ (isI d).isSome = true ∧ BdF n d
def W_law_odd_fraction : DW1 := WG (fun ds => ds = [.sto]) (fun _ z => ∃ d, z = .sh d ∧ OddF 134 d ∧ pl 5 d = true ∧ pd 3 d = true) noX
def errNames : List Str := ["WrongKind", "WrongSize", "OutOfRange", "BadText", "NotATable", "Spent", "TooFewPlaces", "WrongPaper", "UnknownName", "NameTaken", "NothingToUndo", "BookFull"]
def W_law_kinds (pn : Addr × Obj) : DW1 := WG (fun ds => ∃ c a, ds = [.exc c a pn.1 pn.2] ∧ errNames.contains c = true) (fun ds z => ∃ c a, ds = [.exc c a pn.1 pn.2] ∧ z = .sh (.lst [.str c])) noX
def W_law_common : DW1 := WG (fun ds => ∃ a b, ds = [.int a, .int b] ∧ Bd 100000 b) (fun ds z => ∃ a b, ds = [.int a, .int b] ∧ z = .sh (.int (Int.gcd a b))) noX
def W_law_is_ratio_of : DW1 := WG (fun ds => ∃ r n m, ds = [ratD r, .int n, .int m] ∧ m ≠ 0 ∧ r = Rat.divInt n m ∧ RB 30000 r ∧ Bd 30000 n ∧ Bd 30000 m) (fun _ z => z = .sh (.bl true)) noX
def W_law_fraction : DW1 := WG (fun ds => ∃ n, ds = [.sto, .int n] ∧ 6 ≤ n ∧ n ≤ 60) (fun ds z => ∃ n a b, ds = [.sto, .int n] ∧ z = .sh (.tup [.int a, .int b]) ∧ 1 ≤ b ∧ a.natAbs ≤ 3000 * 10 ^ (n - 4).toNat ∧ b.natAbs ≤ 1000 * 10 ^ (n - 4).toNat) noX
def W_law_store : DW1 := WG (fun ds => ∃ ns, ds = [.scr ns]) (fun ds z => ∃ ns q m, ds = [.scr ns] ∧ z = .ow q [.lst (ns.map .int), .int 0, .int 0, .int m, .int 0]) noX
def W_law_same (n : Nat) : DW1 := fun ds Q _ => ∃ d, ds = [d, d] ∧ pl n d = true ∧ Q (.sh (.bl true))
theorem mono_law_same (n : Nat) : MonoW (W_law_same n) := fun ds _ _ _ _ hq he ⟨d, a, b, c⟩ => ⟨d, a, b, hq _ c⟩
theorem len_law_same (n : Nat) : ∀ ds Q E, W_law_same n ds Q E → ds.length = 2 := fun _ _ _ ⟨_, e, _⟩ => by rw [e]; rfl
end C
set_option Elab.async false
set_option maxRecDepth 100000
set_option maxHeartbeats 1000000
set_option linter.unusedVariables false
/-! promises many laws share: monotone, how many arguments -/
namespace C
open PySem PySem.Spec PyProof.Rows L2 NdefX DL
abbrev Kd := Except Er D
theorem mono_law_store : MonoW W_law_store := WG_mono
theorem len_law_store : ∀ ds Q E, W_law_store ds Q E → ds.length = 1 := fun _ _ _ h => by obtain ⟨⟨_, e⟩, _⟩ := h; rw [e]; rfl
/-! the same for the shared ones -/
theorem mono_common_divisor : MonoW W_common_divisor := WG_mono
theorem mono_lowest : MonoW W_lowest := WG_mono
theorem mono_plus : MonoW W_plus := WG_mono
theorem mono_times : MonoW W_times := WG_mono
theorem mono_reduced : MonoW W_reduced := WG_mono
theorem mono_ratio_sum : MonoW W_ratio_sum := WB_mono
theorem mono_ratio_difference : MonoW W_ratio_difference := WB_mono
theorem mono_ratio_product : MonoW W_ratio_product := WB_mono
theorem mono_ratio_quotient : MonoW W_ratio_quotient := WB_mono
theorem mono_ratio_power : MonoW W_ratio_power := WB_mono
theorem mono_law_mixed : MonoW W_law_mixed := WG_mono
theorem mono_law_wide : MonoW W_law_wide := WG_mono
theorem mono_law_take : MonoW W_law_take := WG_mono
theorem mono_law_near : MonoW W_law_near := WG_mono
theorem mono_law_ten : MonoW W_law_ten := WG_mono
theorem mono_law_integer : MonoW W_law_integer := WG_mono
theorem mono_law_fraction : MonoW W_law_fraction := WG_mono
theorem mono_law_is_integer : MonoW W_law_is_integer := WF_mono
theorem mono_law_is_pair : MonoW W_law_is_pair := WF_mono
theorem mono_law_number_fault : MonoW W_law_number_fault := WF_mono
theorem mono_law_fraction_fault : MonoW W_law_fraction_fault := WF_mono
theorem mono_law_first_fault : MonoW W_law_first_fault := WF_mono
theorem mono_law_odd_number : MonoW W_law_odd_number := WG_mono
theorem mono_law_odd_fraction : MonoW W_law_odd_fraction := WG_mono
theorem mono_law_kinds (pn : Addr × Obj) : MonoW (W_law_kinds pn) := WG_mono
theorem mono_law_common : MonoW W_law_common := WG_mono
theorem mono_law_is_ratio_of : MonoW W_law_is_ratio_of := WG_mono
theorem len_common_divisor : ∀ ds Q E, W_common_divisor ds Q E → ds.length = 2 := fun _ _ _ h => by obtain ⟨⟨_, _, e⟩, _⟩ := h; rw [e]; rfl
theorem len_lowest : ∀ ds Q E, W_lowest ds Q E → ds.length = 2 := fun _ _ _ h => by obtain ⟨⟨_, _, e, _⟩, _⟩ := h; rw [e]; rfl
theorem len_plus : ∀ ds Q E, W_plus ds Q E → ds.length = 2 := fun _ _ _ h => by obtain ⟨⟨_, _, e, _⟩, _⟩ := h; rw [e]; rfl
theorem len_times : ∀ ds Q E, W_times ds Q E → ds.length = 2 := fun _ _ _ h => by obtain ⟨⟨_, _, e, _⟩, _⟩ := h; rw [e]; rfl
theorem len_reduced : ∀ ds Q E, W_reduced ds Q E → ds.length = 1 := fun _ _ _ h => by obtain ⟨⟨_, _, e, _⟩, _⟩ := h; rw [e]; rfl
theorem lenF {f : List D → Option Kd} {n : Nat} (k : ∀ ds r, f ds = some r → ds.length = n) : ∀ ds Q E, WF f ds Q E → ds.length = n := fun ds Q E h => by
  unfold WF at h
  split at h
  · exact k _ _ (by assumption)
  · exact k _ _ (by assumption)
  · exact h.elim
theorem lenB {f : List D → Option Kd} {m n : Nat} (k : ∀ ds r, f ds = some r → ds.length = n) : ∀ ds Q E, WB m f ds Q E → ds.length = n := fun ds Q E h => lenF k ds Q E h.2
theorem two_len {op : Rat → Rat → Option Rat} : ∀ ds r, two op ds = some r → ds.length = 2 := fun ds r h => by
  unfold two at h
  split at h
  · rfl
  · cases h
theorem len_ratio_sum : ∀ ds Q E, W_ratio_sum ds Q E → ds.length = 2 := lenB two_len
theorem len_ratio_difference : ∀ ds Q E, W_ratio_difference ds Q E → ds.length = 2 := lenB two_len
theorem len_ratio_product : ∀ ds Q E, W_ratio_product ds Q E → ds.length = 2 := lenB two_len
theorem len_ratio_quotient : ∀ ds Q E, W_ratio_quotient ds Q E → ds.length = 2 := lenB two_len
theorem len_ratio_power : ∀ ds Q E, W_ratio_power ds Q E → ds.length = 2 := lenB fun ds r h => by
  unfold f_ratio_power at h
  split at h
  · rfl
  · cases h
theorem len_law_mixed : ∀ ds Q E, W_law_mixed ds Q E → ds.length = 2 := fun _ _ _ h => by obtain ⟨⟨_, _, e⟩, _⟩ := h; rw [e]; rfl
theorem len_law_wide : ∀ ds Q E, W_law_wide ds Q E → ds.length = 3 := fun _ _ _ h => by obtain ⟨⟨_, _, _, e, _⟩, _⟩ := h; rw [e]; rfl
theorem len_law_take : ∀ ds Q E, W_law_take ds Q E → ds.length = 2 := fun _ _ _ h => by obtain ⟨⟨_, e, _⟩, _⟩ := h; rw [e]; rfl
theorem len_law_near : ∀ ds Q E, W_law_near ds Q E → ds.length = 3 := fun _ _ _ h => by obtain ⟨⟨_, _, e, _⟩, _⟩ := h; rw [e]; rfl
theorem len_law_ten : ∀ ds Q E, W_law_ten ds Q E → ds.length = 1 := fun _ _ _ h => by obtain ⟨⟨_, e, _⟩, _⟩ := h; rw [e]; rfl
theorem len_law_integer : ∀ ds Q E, W_law_integer ds Q E → ds.length = 2 := fun _ _ _ h => by obtain ⟨⟨_, e, _⟩, _⟩ := h; rw [e]; rfl
theorem len_law_fraction : ∀ ds Q E, W_law_fraction ds Q E → ds.length = 2 := fun _ _ _ h => by obtain ⟨⟨_, e, _⟩, _⟩ := h; rw [e]; rfl
theorem len_law_is_integer : ∀ ds Q E, W_law_is_integer ds Q E → ds.length = 1 := lenF fun ds r h => by split at h <;> first | rfl | cases h
theorem len_law_is_pair : ∀ ds Q E, W_law_is_pair ds Q E → ds.length = 1 := lenF fun ds r h => by split at h <;> first | rfl | cases h
theorem len_law_number_fault : ∀ ds Q E, W_law_number_fault ds Q E → ds.length = 3 := lenF fun ds r h => by split at h <;> first | rfl | cases h
theorem len_law_fraction_fault : ∀ ds Q E, W_law_fraction_fault ds Q E → ds.length = 1 := lenF fun ds r h => by split at h <;> first | rfl | cases h
theorem len_law_first_fault : ∀ ds Q E, W_law_first_fault ds Q E → ds.length = 1 := lenF fun ds r h => by split at h <;> first | rfl | cases h
theorem len_law_odd_number : ∀ ds Q E, W_law_odd_number ds Q E → ds.length = 3 := fun _ _ _ h => by obtain ⟨⟨_, _, e, _⟩, _⟩ := h; rw [e]; rfl
theorem len_law_odd_fraction : ∀ ds Q E, W_law_odd_fraction ds Q E → ds.length = 1 := fun _ _ _ h => by obtain ⟨e, _⟩ := h; rw [e]; rfl
theorem len_law_kinds (pn : Addr × Obj) : ∀ ds Q E, W_law_kinds pn ds Q E → ds.length = 1 := fun _ _ _ h => by obtain ⟨⟨_, _, e, _⟩, _⟩ := h; rw [e]; rfl
theorem len_law_common : ∀ ds Q E, W_law_common ds Q E → ds.length = 2 := fun _ _ _ h => by obtain ⟨⟨_, _, e, _⟩, _⟩ := h; rw [e]; rfl
theorem len_law_is_ratio_of : ∀ ds Q E, W_law_is_ratio_of ds Q E → ds.length = 3 := fun _ _ _ h => by obtain ⟨⟨_, _, _, e, _⟩, _⟩ := h; rw [e]; rfl
end C
set_option Elab.async false
set_option maxRecDepth 100000
set_option maxHeartbeats 1000000
set_option linter.unusedVariables false
/-! promises of the class of tables, and of what the laws on tables share -/
namespace C
open PySem PySem.Spec PyProof.Rows L2 NdefX DL
def okT : Str → Bool := fun c => c == "Table"
def nD (l : List Nat) : List D := l.map fun (n : Nat) => D.int n
def nS (l : List Nat) : List Str := l.map fun (n : Nat) => intS n
/-! ### tables -/
/-- l: the bits of a table of width w -/
structure TB (w : Nat) (l : List Nat) : Prop where
  w6 : w ≤ 6
  len : l.length = 2 ^ w
  bit : ∀ b ∈ l, b ≤ 1
def tb (w : Nat) (l : List Nat) : D := .ins "Table" ["wide", "held"] [.int w, .tup (nD l)]
def sgD (l : List Nat) : List D := l.map fun (n : Nat) => D.int (1 - 2 * (n : Int))
def valN : List Nat → Nat
  | [] => 0
  | b :: r => b + 2 * valN r
def tabT (w : Nat) (l : List Nat) : Str := intS w ++ ":" ++ Txt.join "" (nS l)
def invL (l : List Nat) : List Nat := l.map fun b => 1 - b
def xorL (l m : List Nat) : List Nat := List.zipWith (fun a b => (a + b) % 2) l m
def andL (l m : List Nat) : List Nat := List.zipWith (fun a b => a * b) l m
/-! ### the checks -/
def f_check_integer_tables : List D → Option Kd
  | [z, d] => f_check_integer [d, z]
  | _ => none
def W_check_integer_tables : DW1 := WF f_check_integer_tables
def f_check_between_tables : List D → Option Kd
  | [z, d, lo, hi] => f_check_between [d, lo, hi, z]
  | _ => none
def W_check_between_tables : DW1 := WF f_check_between_tables
def f_check_width_tables : List D → Option Kd
  | [d] => f_check_between [d, .int 0, .int 6, .str "width"]
  | _ => none
def W_check_width_tables : DW1 := WF f_check_width_tables
def W_check_word_tables : DW1 := fun ds Q E => ∃ (w : Nat) (d : D) (z : Str), ds = [.str z, .int w, d] ∧ w ≤ 6 ∧ WF f_check_between [d, .int 0, .int (2 ^ w - 1), .str z] Q E
/-- a row's fault, by its kind and length -/
def rowF (d : D) (lo hi : Int) : Option (Option Str) := match d with
  | .lst l => some (if (l.length : Int) < lo ∨ hi < l.length then some "WrongSize" else none)
  | .tup l => some (if (l.length : Int) < lo ∨ hi < l.length then some "WrongSize" else none)
  | d => (isI d).map fun _ => some "WrongKind"
def f_check_row_tables : List D → Option Kd
  | [.str z, d, .int lo, .int hi] => if z.length ≤ 1000 then (rowF d lo hi).map fun o => (match o with | none => .ok .non | some c => .error (Er1 c z)) else none
  | _ => none
def W_check_row_tables : DW1 := WF f_check_row_tables
def itemsD : D → List D
  | .lst l => l
  | .tup l => l
  | _ => []
/-- the first item that is no bit -/
def bitsF : List D → Option Kd
  | [] => some (.ok .non)
  | d :: ds => match f_check_between [d, .int 0, .int 1, .str "bits"] with
    | some (.ok _) => bitsF ds
    | r => r
def f_check_bits : List D → Option Kd
  | [d, .int lo, .int hi] => (match f_check_row_tables [.str "bits", d, .int lo, .int hi] with
    | some (.ok _) => bitsF (itemsD d)
    | r => r)
  | _ => none
def W_check_bits : DW1 := WF f_check_bits
/-! ### the class -/
def f_Table_init : List D → Option Kd
  | [x, d] => (match f_check_width_tables [x] with
    | some (.ok _) => (match x with
      | .int w => (match f_check_bits [d, .int (2 ^ w.toNat), .int (2 ^ w.toNat)] with
        | some (.ok _) => some (.ok (.ins "Table" ["wide", "held"] [.int w, .tup (itemsD d)]))
        | r => r)
      | _ => none)
    | r => r)
  | _ => none
def W_Table_init : DW1 := WF f_Table_init
def W_Table_width : DW1 := fun ds Q _ => ∃ w l, ds = [tb w l] ∧ TB w l ∧ Q (.sh (.int w))
def W_Table_bits : DW1 := fun ds Q _ => ∃ w l, ds = [tb w l] ∧ TB w l ∧ Q (.sh (.tup (nD l)))
def W_Table_ones : DW1 := fun ds Q _ => ∃ w l, ds = [tb w l] ∧ TB w l ∧ Q (.sh (.int (l.sum : Nat)))
def W_Table_number : DW1 := fun ds Q _ => ∃ w l, ds = [tb w l] ∧ TB w l ∧ Q (.sh (.int (valN l)))
/-- a word of the width, or its fault -/
def wordF (w : Nat) (d : D) (g : Nat → D) : Option Kd := match f_check_between [d, .int 0, .int (2 ^ w - 1), .str "word"] with
  | some (.ok _) => (match d with
    | .int i => some (.ok (g i.toNat))
    | _ => none)
  | r => r
def W_Table_sign : DW1 := fun ds Q E => ∃ w l d, ds = [tb w l, d] ∧ TB w l ∧ WF (fun _ => wordF w d fun m => .int (1 - 2 * (l.getD m 0 : Nat))) [] Q E
def W_Table_getitem : DW1 := fun ds Q E => ∃ w l d, ds = [tb w l, d] ∧ TB w l ∧ WF (fun _ => wordF w d fun m => .int (l.getD m 0 : Nat)) [] Q E
def W_Table_signs : DW1 := fun ds Q _ => ∃ w l, ds = [tb w l] ∧ TB w l ∧ ∀ p, Q (.ow p (sgD l))
def W_Table_len : DW1 := fun ds Q _ => ∃ w l, ds = [tb w l] ∧ TB w l ∧ Q (.sh (.int (2 ^ w : Nat)))
def W_Table_eq : DW1 := fun ds Q _ => ∃ w l v m, ds = [tb w l, tb v m] ∧ TB w l ∧ TB v m ∧ Q (.sh (.bl (decide (w = v ∧ l = m))))
def two_T (op : List Nat → List Nat → List Nat) : DW1 := fun ds Q E => ∃ w l v m, ds = [tb w l, tb v m] ∧ TB w l ∧ TB v m ∧ (w = v → Q (.sh (tb w (op l m)))) ∧ (w ≠ v → E (Er1 "WrongSize" "other"))
def W_Table_add : DW1 := two_T xorL
def W_Table_and : DW1 := two_T andL
def W_Table_invert : DW1 := fun ds Q _ => ∃ w l, ds = [tb w l] ∧ TB w l ∧ Q (.sh (tb w (invL l)))
def W_Table_str : DW1 := fun ds Q _ => ∃ w l, ds = [tb w l] ∧ TB w l ∧ Q (.sh (.str (tabT w l)))
/-! ### drawn tables -/
def popN (m : Nat) : Nat := ((List.range 20).map fun k => m / 2 ^ k % 2).sum
def W_law_size : DW1 := fun ds Q _ => ∃ m : Nat, ds = [.int m] ∧ m < 2 ^ 20 ∧ Q (.sh (.int (popN m)))
def W_law_parity : DW1 := fun ds Q _ => ∃ a b : Nat, ds = [.int a, .int b] ∧ a < 2 ^ 20 ∧ Q (.sh (.int (popN (a &&& b) % 2 : Nat)))
def W_law_width : DW1 := WG (fun ds => ∃ lo hi : Nat, ds = [.sto, .int lo, .int hi] ∧ lo ≤ hi ∧ hi ≤ 6) (fun ds z => ∃ lo hi w : Nat, ds = [.sto, .int lo, .int hi] ∧ z = .sh (.int w) ∧ lo ≤ w ∧ w ≤ hi) noX
def W_law_word : DW1 := WG (fun ds => ∃ w : Nat, ds = [.sto, .int w] ∧ w ≤ 6) (fun ds z => ∃ w m : Nat, ds = [.sto, .int w] ∧ z = .sh (.int m) ∧ m < 2 ^ w) noX
def BitsR : List D → Sl → Prop := fun ds z => ∃ (w : Nat) (r : List D) (l : List Nat), ds = .sto :: .int w :: r ∧ z = .sh (.lst (nD l)) ∧ TB w l
def W_law_bits_of : DW1 := WG (fun ds => ∃ w k : Nat, ds = [.sto, .int w, .int k] ∧ w ≤ 6 ∧ k ≤ 9) BitsR noX
def W_law_bits_up : DW1 := WG (fun ds => ∃ w : Nat, ds = [.sto, .int w] ∧ w ≤ 6) BitsR noX
def W_law_bits : DW1 := WG (fun ds => ∃ w : Nat, ds = [.sto, .int w] ∧ w ≤ 6) BitsR noX
/-! ### monotone, how many arguments -/
theorem mono_check_integer_tables : MonoW W_check_integer_tables := WF_mono
theorem mono_check_between_tables : MonoW W_check_between_tables := WF_mono
theorem mono_check_width_tables : MonoW W_check_width_tables := WF_mono
theorem mono_check_word_tables : MonoW W_check_word_tables := fun _ _ _ _ _ hq he ⟨w, d, z, a, b, c⟩ => ⟨w, d, z, a, b, WF_mono hq he c⟩
theorem mono_check_row_tables : MonoW W_check_row_tables := WF_mono
theorem mono_check_bits : MonoW W_check_bits := WF_mono
theorem mono_Table_init : MonoW W_Table_init := WF_mono
theorem mono_Table_width : MonoW W_Table_width := fun _ _ _ _ _ hq _ ⟨w, l, a, b, c⟩ => ⟨w, l, a, b, hq _ c⟩
theorem mono_Table_bits : MonoW W_Table_bits := fun _ _ _ _ _ hq _ ⟨w, l, a, b, c⟩ => ⟨w, l, a, b, hq _ c⟩
theorem mono_Table_ones : MonoW W_Table_ones := fun _ _ _ _ _ hq _ ⟨w, l, a, b, c⟩ => ⟨w, l, a, b, hq _ c⟩
theorem mono_Table_number : MonoW W_Table_number := fun _ _ _ _ _ hq _ ⟨w, l, a, b, c⟩ => ⟨w, l, a, b, hq _ c⟩
theorem mono_Table_sign : MonoW W_Table_sign := fun _ _ _ _ _ hq he ⟨w, l, d, a, b, c⟩ => ⟨w, l, d, a, b, WF_mono hq he c⟩
theorem mono_Table_getitem : MonoW W_Table_getitem := fun _ _ _ _ _ hq he ⟨w, l, d, a, b, c⟩ => ⟨w, l, d, a, b, WF_mono hq he c⟩
theorem mono_Table_signs : MonoW W_Table_signs := fun _ _ _ _ _ hq _ ⟨w, l, a, b, c⟩ => ⟨w, l, a, b, fun p => hq _ (c p)⟩
theorem mono_Table_len : MonoW W_Table_len := fun _ _ _ _ _ hq _ ⟨w, l, a, b, c⟩ => ⟨w, l, a, b, hq _ c⟩
theorem mono_Table_eq : MonoW W_Table_eq := fun _ _ _ _ _ hq _ ⟨w, l, v, m, a, b, c, d⟩ => ⟨w, l, v, m, a, b, c, hq _ d⟩
theorem two_mono {op : List Nat → List Nat → List Nat} : MonoW (two_T op) := fun _ _ _ _ _ hq he ⟨w, l, v, m, a, b, c, d, e⟩ => ⟨w, l, v, m, a, b, c, fun x => hq _ (d x), fun x => he _ (e x)⟩
theorem mono_Table_add : MonoW W_Table_add := two_mono
theorem mono_Table_and : MonoW W_Table_and := two_mono
theorem mono_Table_invert : MonoW W_Table_invert := fun _ _ _ _ _ hq _ ⟨w, l, a, b, c⟩ => ⟨w, l, a, b, hq _ c⟩
theorem mono_Table_str : MonoW W_Table_str := fun _ _ _ _ _ hq _ ⟨w, l, a, b, c⟩ => ⟨w, l, a, b, hq _ c⟩
theorem mono_law_size : MonoW W_law_size := fun _ _ _ _ _ hq _ ⟨m, a, b, c⟩ => ⟨m, a, b, hq _ c⟩
theorem mono_law_parity : MonoW W_law_parity := fun _ _ _ _ _ hq _ ⟨x, y, a, b, c⟩ => ⟨x, y, a, b, hq _ c⟩
theorem mono_law_width : MonoW W_law_width := WG_mono
theorem mono_law_word : MonoW W_law_word := WG_mono
theorem mono_law_bits_of : MonoW W_law_bits_of := WG_mono
theorem mono_law_bits_up : MonoW W_law_bits_up := WG_mono
theorem mono_law_bits : MonoW W_law_bits := WG_mono
theorem lenT {f : List D → Option Kd} {n : Nat} (k : ∀ ds, (f ds).isSome = true → ds.length = n) : ∀ ds Q E, WF f ds Q E → ds.length = n := lenF fun ds r h => k ds (by rw [h]; rfl)
theorem len_check_integer_tables : ∀ ds Q E, W_check_integer_tables ds Q E → ds.length = 2 := lenT fun ds h => by
  unfold f_check_integer_tables at h; split at h <;> first | rfl | cases h
theorem len_check_between_tables : ∀ ds Q E, W_check_between_tables ds Q E → ds.length = 4 := lenT fun ds h => by
  unfold f_check_between_tables at h; split at h <;> first | rfl | cases h
theorem len_check_width_tables : ∀ ds Q E, W_check_width_tables ds Q E → ds.length = 1 := lenT fun ds h => by
  unfold f_check_width_tables at h; split at h <;> first | rfl | cases h
theorem len_check_word_tables : ∀ ds Q E, W_check_word_tables ds Q E → ds.length = 3 := fun _ _ _ ⟨_, _, _, e, _⟩ => by rw [e]; rfl
theorem len_check_row_tables : ∀ ds Q E, W_check_row_tables ds Q E → ds.length = 4 := lenT fun ds h => by
  unfold f_check_row_tables at h; split at h <;> first | rfl | cases h
theorem len_check_bits : ∀ ds Q E, W_check_bits ds Q E → ds.length = 3 := lenT fun ds h => by
  unfold f_check_bits at h; split at h <;> first | rfl | cases h
theorem len_Table_init : ∀ ds Q E, W_Table_init ds Q E → ds.length = 2 := lenT fun ds h => by
  unfold f_Table_init at h; split at h <;> first | rfl | cases h
theorem len_Table_width : ∀ ds Q E, W_Table_width ds Q E → ds.length = 1 := fun _ _ _ ⟨_, _, e, _⟩ => by rw [e]; rfl
theorem len_Table_bits : ∀ ds Q E, W_Table_bits ds Q E → ds.length = 1 := fun _ _ _ ⟨_, _, e, _⟩ => by rw [e]; rfl
theorem len_Table_ones : ∀ ds Q E, W_Table_ones ds Q E → ds.length = 1 := fun _ _ _ ⟨_, _, e, _⟩ => by rw [e]; rfl
theorem len_Table_number : ∀ ds Q E, W_Table_number ds Q E → ds.length = 1 := fun _ _ _ ⟨_, _, e, _⟩ => by rw [e]; rfl
theorem len_Table_sign : ∀ ds Q E, W_Table_sign ds Q E → ds.length = 2 := fun _ _ _ ⟨_, _, _, e, _⟩ => by rw [e]; rfl
theorem len_Table_getitem : ∀ ds Q E, W_Table_getitem ds Q E → ds.length = 2 := fun _ _ _ ⟨_, _, _, e, _⟩ => by rw [e]; rfl
theorem len_Table_signs : ∀ ds Q E, W_Table_signs ds Q E → ds.length = 1 := fun _ _ _ ⟨_, _, e, _⟩ => by rw [e]; rfl
theorem len_Table_len : ∀ ds Q E, W_Table_len ds Q E → ds.length = 1 := fun _ _ _ ⟨_, _, e, _⟩ => by rw [e]; rfl
theorem len_Table_eq : ∀ ds Q E, W_Table_eq ds Q E → ds.length = 2 := fun _ _ _ ⟨_, _, _, _, e, _⟩ => by rw [e]; rfl
theorem len_Table_add : ∀ ds Q E, W_Table_add ds Q E → ds.length = 2 := fun _ _ _ ⟨_, _, _, _, e, _⟩ => by rw [e]; rfl
theorem len_Table_and : ∀ ds Q E, W_Table_and ds Q E → ds.length = 2 := fun _ _ _ ⟨_, _, _, _, e, _⟩ => by rw [e]; rfl
theorem len_Table_invert : ∀ ds Q E, W_Table_invert ds Q E → ds.length = 1 := fun _ _ _ ⟨_, _, e, _⟩ => by rw [e]; rfl
theorem len_Table_str : ∀ ds Q E, W_Table_str ds Q E → ds.length = 1 := fun _ _ _ ⟨_, _, e, _⟩ => by rw [e]; rfl
theorem len_law_size : ∀ ds Q E, W_law_size ds Q E → ds.length = 1 := fun _ _ _ ⟨_, e, _⟩ => by rw [e]; rfl
theorem len_law_parity : ∀ ds Q E, W_law_parity ds Q E → ds.length = 2 := fun _ _ _ ⟨_, _, e, _⟩ => by rw [e]; rfl
theorem len_law_width : ∀ ds Q E, W_law_width ds Q E → ds.length = 3 := fun _ _ _ ⟨⟨_, _, e, _⟩, _⟩ => by rw [e]; rfl
theorem len_law_word : ∀ ds Q E, W_law_word ds Q E → ds.length = 2 := fun _ _ _ ⟨⟨_, e, _⟩, _⟩ => by rw [e]; rfl
theorem len_law_bits_of : ∀ ds Q E, W_law_bits_of ds Q E → ds.length = 3 := fun _ _ _ ⟨⟨_, _, e, _⟩, _⟩ => by rw [e]; rfl
theorem len_law_bits_up : ∀ ds Q E, W_law_bits_up ds Q E → ds.length = 2 := fun _ _ _ ⟨⟨_, e, _⟩, _⟩ => by rw [e]; rfl
theorem len_law_bits : ∀ ds Q E, W_law_bits ds Q E → ds.length = 2 := fun _ _ _ ⟨⟨_, e, _⟩, _⟩ => by rw [e]; rfl
end C
set_option maxRecDepth 100000
/-! D-level programs that many laws share, printed by gen_defs.py -/
namespace C
open PySem PySem.Spec PyProof.Rows L2 NdefX DL
/-- plus -/
def p_plus : DS :=
  (wSeq (wUnp2 2 3 (wVar 0))
  (wSeq (wUnp2 4 5 (wVar 1))
  (wSeq (wSet 6 (wCall W_common_divisor (wCons (wVar 3) (wCons (wVar 5) wNil))))
  (wSeq (wSet 7 (wOp roAdd (wMul (wVar 2) (wFdiv (wVar 5) (wVar 6))) (wMul (wVar 4) (wFdiv (wVar 3) (wVar 6)))))
  (wSeq (wSet 8 (wCall W_common_divisor (wCons (wVar 7) (wCons (wVar 6) wNil))))
  (wSeq (wRet (wTup (wCons (wFdiv (wVar 7) (wVar 8)) (wCons (wMul (wFdiv (wVar 3) (wVar 6)) (wFdiv (wVar 5) (wVar 8))) wNil))))
  wNext))))))
/-- times -/
def p_times : DS :=
  (wSeq (wUnp2 2 3 (wVar 0))
  (wSeq (wUnp2 4 5 (wVar 1))
  (wSeq (wSet 6 (wCall W_common_divisor (wCons (wVar 2) (wCons (wVar 5) wNil))))
  (wSeq (wSet 7 (wCall W_common_divisor (wCons (wVar 4) (wCons (wVar 3) wNil))))
  (wSeq (wRet (wTup (wCons (wMul (wFdiv (wVar 2) (wVar 6)) (wFdiv (wVar 4) (wVar 7))) (wCons (wMul (wFdiv (wVar 3) (wVar 7)) (wFdiv (wVar 5) (wVar 6))) wNil))))
  wNext)))))
/-- reduced -/
def p_reduced : DS :=
  (wSeq (wRet (wCall W_lowest (wCons (wIx (wVar 0) (wC (.int 0))) (wCons (wIx (wVar 0) (wC (.int 1))) wNil))))
  wNext)
/-- ratio_sum -/
def p_ratio_sum : DS :=
  (wSeq (wDrop (wCall W_check_fraction (wCons (wVar 0) (wCons (wC (.str "first")) wNil))))
  (wSeq (wDrop (wCall W_check_fraction (wCons (wVar 1) (wCons (wC (.str "second")) wNil))))
  (wSeq (wRet (wCall W_plus (wCons (wCall W_reduced (wCons (wVar 0) wNil)) (wCons (wCall W_reduced (wCons (wVar 1) wNil)) wNil))))
  wNext)))
/-- ratio_difference -/
def p_ratio_difference : DS :=
  (wSeq (wDrop (wCall W_check_fraction (wCons (wVar 0) (wCons (wC (.str "first")) wNil))))
  (wSeq (wDrop (wCall W_check_fraction (wCons (wVar 1) (wCons (wC (.str "second")) wNil))))
  (wSeq (wRet (wCall W_plus (wCons (wCall W_reduced (wCons (wVar 0) wNil)) (wCons (wCall W_lowest (wCons (wNeg (wIx (wVar 1) (wC (.int 0)))) (wCons (wIx (wVar 1) (wC (.int 1))) wNil))) wNil))))
  wNext)))
/-- ratio_product -/
def p_ratio_product : DS :=
  (wSeq (wDrop (wCall W_check_fraction (wCons (wVar 0) (wCons (wC (.str "first")) wNil))))
  (wSeq (wDrop (wCall W_check_fraction (wCons (wVar 1) (wCons (wC (.str "second")) wNil))))
  (wSeq (wRet (wCall W_times (wCons (wCall W_reduced (wCons (wVar 0) wNil)) (wCons (wCall W_reduced (wCons (wVar 1) wNil)) wNil))))
  wNext)))
/-- ratio_quotient -/
def p_ratio_quotient : DS :=
  (wSeq (wDrop (wCall W_check_fraction (wCons (wVar 0) (wCons (wC (.str "first")) wNil))))
  (wSeq (wDrop (wCall W_check_fraction (wCons (wVar 1) (wCons (wC (.str "second")) wNil))))
  (wSeq (wIf (wTest (wOp (roEq false) (wIx (wVar 1) (wC (.int 0))) (wC (.int 0)))) (wSeq (wRaise "OutOfRange" (wC (.str "second")))
  wNext) wNext)
  (wSeq (wRet (wCall W_times (wCons (wCall W_reduced (wCons (wVar 0) wNil)) (wCons (wCall W_lowest (wCons (wIx (wVar 1) (wC (.int 1))) (wCons (wIx (wVar 1) (wC (.int 0))) wNil))) wNil))))
  wNext))))
/-- _law_is_integer -/
def p_law_is_integer : DS :=
  (wSeq (wRet (wAndV (wIsi isInt [] (wVar 0)) (wNotV (wIsi isBool [] (wVar 0)))))
  wNext)
/-- _law_is_pair -/
def p_law_is_pair : DS :=
  (wSeq (wIf (wOrB (wNotB (wTest (wIsi isTup [] (wVar 0)))) (wTest (wOp (roEq true) (wLen (wCons (wVar 0) wNil)) (wC (.int 2))))) (wSeq (wRet (wC (.bl false)))
  wNext) wNext)
  (wSeq (wRet (wAndV (wCall W_law_is_integer (wCons (wIx (wVar 0) (wC (.int 0))) wNil)) (wCall W_law_is_integer (wCons (wIx (wVar 0) (wC (.int 1))) wNil))))
  wNext))
/-- _law_common -/
def p_law_common : DS :=
  (wSeq (wSet 2 (wLst (wCons (wAbs (wCons (wVar 0) wNil)) (wCons (wAbs (wCons (wVar 1) wNil)) wNil))))
  (wSeq (wFor (wRng1 (wCons (wOp roAdd (wMul (wC (.int 2)) (wBits (wIx (wVar 2) (wC (.int 1))))) (wC (.int 3))) wNil)) (dgName 3) (wSeq (wIf (wTest (wOp (roEq false) (wIx (wVar 2) (wC (.int 1))) (wC (.int 0)))) (wSeq wBreak
  wNext) wNext)
  (wSeq (wSet 2 (wLst (wCons (wIx (wVar 2) (wC (.int 1))) (wCons (wMod (wInt (wCons (wIx (wVar 2) (wC (.int 0))) wNil)) (wIx (wVar 2) (wC (.int 1)))) wNil))))
  wNext)))
  (wSeq (wRet (wIx (wVar 2) (wC (.int 0))))
  wNext)))
/-- _law_is_ratio_of -/
def p_law_is_ratio_of : DS :=
  (wSeq (wIf (wOrB (wNotB (wTest (wCall W_law_is_pair (wCons (wVar 0) wNil)))) (wTest (wLt (wIx (wVar 0) (wC (.int 1))) (wC (.int 1))))) (wSeq (wRet (wC (.bl false)))
  wNext) wNext)
  (wSeq (wRet (wAndV (wOp (roEq false) (wMul (wIx (wVar 0) (wC (.int 0))) (wVar 2)) (wMul (wVar 1) (wIx (wVar 0) (wC (.int 1))))) (wOp (roEq false) (wCall W_law_common (wCons (wIx (wVar 0) (wC (.int 0))) (wCons (wIx (wVar 0) (wC (.int 1))) wNil))) (wC (.int 1)))))
  wNext))
/-- check_integer -/
def p_check_integer : DS :=
  (wSeq (wIf (wOrB (wTest (wIsi isBool [] (wVar 0))) (wNotB (wTest (wIsi isInt [] (wVar 0))))) (wSeq (wRaise "WrongKind" (wVar 1))
  wNext) wNext)
  wNext)
/-- check_between -/
def p_check_between : DS :=
  (wSeq (wDrop (wCall W_check_integer (wCons (wVar 0) (wCons (wVar 3) wNil))))
  (wSeq (wIf (wOrB (wTest (wLt (wVar 0) (wVar 1))) (wTest (wGt (wVar 0) (wVar 2)))) (wSeq (wRaise "OutOfRange" (wVar 3))
  wNext) wNext)
  wNext))
/-- check_fraction -/
def p_check_fraction : DS :=
  (wSeq (wIf (wNotB (wTest (wIsi isTup [] (wVar 0)))) (wSeq (wRaise "WrongKind" (wVar 1))
  wNext) wNext)
  (wSeq (wIf (wTest (wOp (roEq true) (wLen (wCons (wVar 0) wNil)) (wC (.int 2)))) (wSeq (wRaise "WrongSize" (wVar 1))
  wNext) wNext)
  (wSeq (wDrop (wCall W_check_integer (wCons (wIx (wVar 0) (wC (.int 0))) (wCons (wVar 1) wNil))))
  (wSeq (wDrop (wCall W_check_integer (wCons (wIx (wVar 0) (wC (.int 1))) (wCons (wVar 1) wNil))))
  (wSeq (wIf (wTest (wLt (wIx (wVar 0) (wC (.int 1))) (wC (.int 1)))) (wSeq (wRaise "OutOfRange" (wVar 1))
  wNext) wNext)
  wNext)))))
/-- common_divisor -/
def p_common_divisor : DS :=
  (wSeq (wSet 2 (wAbs (wCons (wVar 0) wNil)))
  (wSeq (wSet 3 (wAbs (wCons (wVar 1) wNil)))
  (wSeq (wWhile (wTest (wGt (wVar 3) (wC (.int 0)))) (wSeq (wPar 2 3 (wCons (wVar 3) (wCons (wMod (wVar 2) (wVar 3)) wNil)))
  wNext))
  (wSeq (wRet (wVar 2))
  wNext))))
/-- lowest -/
def p_lowest : DS :=
  (wSeq (wIf (wTest (wLt (wVar 1) (wC (.int 0)))) (wSeq (wSet 0 (wNeg (wVar 0)))
  (wSeq (wSet 1 (wNeg (wVar 1)))
  wNext)) wNext)
  (wSeq (wSet 2 (wCall W_common_divisor (wCons (wVar 0) (wCons (wVar 1) wNil))))
  (wSeq (wRet (wTup (wCons (wFdiv (wVar 0) (wVar 2)) (wCons (wFdiv (wVar 1) (wVar 2)) wNil))))
  wNext)))
/-- _law_mixed -/
def p_law_mixed : DS :=
  (wSeq (wSet 2 (wMod (wInt (wCons (wOp roAdd (wOp roAdd (wMul (wMod (wInt (wCons (wVar 0) wNil)) (wC (.int 2147483647))) (wC (.int 48271))) (wMul (wVar 1) (wC (.int 69621)))) (wC (.int 8191))) wNil)) (wC (.int 2147483647))))
  (wSeq (wSet 3 (wMod (wInt (wCons (wOp roAdd (wOp roAdd (wMul (wVar 2) (wVar 2)) (wMul (wVar 1) (wC (.int 40692)))) (wC (.int 77))) wNil)) (wC (.int 2147483399))))
  (wSeq (wRet (wMod (wInt (wCons (wOp roAdd (wOp roAdd (wMul (wFdiv (wVar 3) (wC (.int 46337))) (wC (.int 7919))) (wMul (wMod (wInt (wCons (wVar 3) wNil)) (wC (.int 46337))) (wC (.int 46327)))) (wMod (wInt (wCons (wVar 2) wNil)) (wC (.int 65521)))) wNil)) (wC (.int 2147483399))))
  wNext)))
/-- _law_wide -/
def p_law_wide : DS :=
  (wSeq (wSet 3 (wCall W_law_mixed (wCons (wVar 0) (wCons (wVar 1) wNil))))
  (wSeq (wFor (wRng1 (wCons (wFdiv (wBits (wVar 2)) (wC (.int 20))) wNil)) (dgName 4) (wSeq (wSet 3 (wOp roAdd (wMul (wVar 3) (wC (.int 2147483399))) (wCall W_law_mixed (wCons (wVar 0) (wCons (wOp roAdd (wVar 1) (wMul (wC (.int 1000003)) (wOp roAdd (wVar 4) (wC (.int 1))))) wNil)))))
  wNext))
  (wSeq (wRet (wMod (wInt (wCons (wVar 3) wNil)) (wVar 2)))
  wNext)))
/-- _law_store -/
def p_law_store : DS :=
  (wSeq (wSet 1 (wC (.int 900001)))
  (wSeq (wFor (wItemsS (wVar 0)) (dgName 2) (wSeq (wSet 1 (wMod (wInt (wCons (wOp roAdd (wOp roAdd (wMul (wVar 1) (wC (.int 69621))) (wMod (wInt (wCons (wVar 2) wNil)) (wC (.int 2147483629)))) (wC (.int 11))) wNil)) (wC (.int 2147483629))))
  wNext))
  (wSeq (wRet (wLst (wCons (wList (wCons (wVar 0) wNil)) (wCons (wC (.int 0)) (wCons (wC (.int 0)) (wCons (wVar 1) (wCons (wC (.int 0)) wNil)))))))
  wNext)))
/-- _law_take -/
def p_law_take : DS :=
  (wSeq (wIf (wTest (wLt (wVar 1) (wC (.int 2)))) (wSeq (wRet (wC (.int 0)))
  wNext) wNext)
  (wSeq (wSetIx 0 (wOp roAdd (wIxO 0 (wC (.int 4))) (wC (.int 1))) (wC (.int 4)))
  (wSeq (wIf (wAndB (wTest (wOp (roEq false) (wIxO 0 (wC (.int 2))) (wC (.int 0)))) (wTest (wLt (wIxO 0 (wC (.int 1))) (wLen (wCons (wIxO 0 (wC (.int 0))) wNil))))) (wSeq (wSet 2 (wInt (wCons (wIx (wIxO 0 (wC (.int 0))) (wIxO 0 (wC (.int 1)))) wNil)))
  (wSeq (wSetIx 0 (wOp roAdd (wIxO 0 (wC (.int 1))) (wC (.int 1))) (wC (.int 1)))
  (wSeq (wIf (wTest (wLt (wVar 2) (wPow (wC (.int 10)) (wC (.int 18))))) (wSeq (wRet (wCall W_law_wide (wCons (wVar 2) (wCons (wIxO 0 (wC (.int 4))) (wCons (wVar 1) wNil)))))
  wNext) wNext)
  (wSeq (wSetIx 0 (wVar 2) (wC (.int 2)))
  wNext)))) wNext)
  (wSeq (wIf (wTest (wGt (wIxO 0 (wC (.int 2))) (wC (.int 0)))) (wSeq (wSet 3 (wMod (wInt (wCons (wIxO 0 (wC (.int 2))) wNil)) (wVar 1)))
  (wSeq (wSetIx 0 (wFdiv (wInt (wCons (wIxO 0 (wC (.int 2))) wNil)) (wVar 1)) (wC (.int 2)))
  (wSeq (wRet (wVar 3))
  wNext))) wNext)
  (wSeq (wRet (wCall W_law_wide (wCons (wIxO 0 (wC (.int 3))) (wCons (wIxO 0 (wC (.int 4))) (wCons (wVar 1) wNil)))))
  wNext)))))
/-- _law_near -/
def p_law_near : DS :=
  (wSeq (wSet 3 (wCall W_law_take (wCons (wVar 0) (wCons (wC (.int 12)) wNil))))
  (wSeq (wIf (wTest (wLt (wVar 3) (wC (.int 4)))) (wSeq (wRet (wIx (wLst (wCons (wVar 1) (wCons (wVar 2) (wCons (wMin (wCons (wOp roAdd (wVar 1) (wC (.int 1))) (wCons (wVar 2) wNil))) (wCons (wMax (wCons (wSub (wVar 2) (wC (.int 1))) (wCons (wVar 1) wNil))) wNil))))) (wVar 3)))
  wNext) wNext)
  (wSeq (wRet (wOp roAdd (wVar 1) (wCall W_law_take (wCons (wVar 0) (wCons (wOp roAdd (wSub (wVar 2) (wVar 1)) (wC (.int 1))) wNil)))))
  wNext)))
/-- _law_same -/
def p_law_same (n : Nat) : DS :=
  (wSeq (wIf (wTest (wOp (roIsN false) (wVar 1) (wC .non))) (wSeq (wRet (wOp (roIsN false) (wVar 0) (wC .non)))
  wNext) wNext)
  (wSeq (wIf (wTest (wIsi isBool [] (wVar 1))) (wSeq (wRet (wAndV (wIsi isBool [] (wVar 0)) (wOp (roEq false) (wVar 0) (wVar 1))))
  wNext) wNext)
  (wSeq (wIf (wTest (wIsi isInt [] (wVar 1))) (wSeq (wRet (wAndV (wIsi isInt [] (wVar 0)) (wAndV (wNotV (wIsi isBool [] (wVar 0))) (wOp (roEq false) (wVar 0) (wVar 1)))))
  wNext) wNext)
  (wSeq (wIf (wTest (wIsi isStr [] (wVar 1))) (wSeq (wRet (wAndV (wIsi isStr [] (wVar 0)) (wOp (roEq false) (wVar 0) (wVar 1))))
  wNext) wNext)
  (wSeq (wIf (wAndB (wTest (wIsi isLst [] (wVar 1))) (wNotB (wTest (wIsi isLst [] (wVar 0))))) (wSeq (wRet (wC (.bl false)))
  wNext) wNext)
  (wSeq (wIf (wAndB (wTest (wIsi isTup [] (wVar 1))) (wNotB (wTest (wIsi isTup [] (wVar 0))))) (wSeq (wRet (wC (.bl false)))
  wNext) wNext)
  (wSeq (wIf (wTest (wOp (roEq true) (wLen (wCons (wVar 0) wNil)) (wLen (wCons (wVar 1) wNil)))) (wSeq (wRet (wC (.bl false)))
  wNext) wNext)
  (wSeq (wFor (wRng1 (wCons (wLen (wCons (wVar 1) wNil)) wNil)) (dgName 2) (wSeq (wIf (wNotB (wTest (wCall (W_law_same n) (wCons (wIx (wVar 0) (wVar 2)) (wCons (wIx (wVar 1) (wVar 2)) wNil))))) (wSeq (wRet (wC (.bl false)))
  wNext) wNext)
  wNext))
  (wSeq (wRet (wC (.bl true)))
  wNext)))))))))
/-- _law_ten -/
def p_law_ten : DS :=
  (wSeq (wSet 1 (wC (.int 1)))
  (wSeq (wFor (wRng1 (wCons (wVar 0) wNil)) (dgName 2) (wSeq (wSet 1 (wMul (wVar 1) (wC (.int 10))))
  wNext))
  (wSeq (wRet (wVar 1))
  wNext)))
/-- _law_integer -/
def p_law_integer : DS :=
  (wSeq (wSet 2 (wCall W_law_take (wCons (wVar 0) (wCons (wC (.int 12)) wNil))))
  (wSeq (wIf (wTest (wLt (wVar 2) (wC (.int 4)))) (wSeq (wRet (wIx (wLst (wCons (wC (.int 0)) (wCons (wC (.int 1)) (wCons (wNeg (wC (.int 1))) (wCons (wC (.int 2)) wNil))))) (wVar 2)))
  wNext) wNext)
  (wSeq (wIf (wTest (wLt (wVar 2) (wC (.int 8)))) (wSeq (wRet (wSub (wCall W_law_take (wCons (wVar 0) (wCons (wC (.int 41)) wNil))) (wC (.int 20))))
  wNext) wNext)
  (wSeq (wSet 3 (wSub (wCall W_law_ten (wCons (wMin (wCons (wVar 1) (wCons (wC (.int 9)) wNil))) wNil)) (wC (.int 1))))
  (wSeq (wIf (wTest (wOp (roEq false) (wVar 2) (wC (.int 10)))) (wSeq (wSet 3 (wSub (wCall W_law_ten (wCons (wMin (wCons (wVar 1) (wCons (wC (.int 24)) wNil))) wNil)) (wC (.int 1))))
  wNext) wNext)
  (wSeq (wIf (wTest (wOp (roEq false) (wVar 2) (wC (.int 11)))) (wSeq (wSet 3 (wSub (wCall W_law_ten (wCons (wVar 1) wNil)) (wC (.int 1))))
  wNext) wNext)
  (wSeq (wRet (wCall W_law_near (wCons (wVar 0) (wCons (wSub (wC (.int 0)) (wVar 3)) (wCons (wVar 3) wNil)))))
  wNext)))))))
/-- _law_fraction -/
def p_law_fraction : DS :=
  (wSeq (wSet 2 (wCall W_law_integer (wCons (wVar 0) (wCons (wSub (wVar 1) (wC (.int 4))) wNil))))
  (wSeq (wSet 3 (wAbs (wCons (wCall W_law_integer (wCons (wVar 0) (wCons (wSub (wVar 1) (wC (.int 4))) wNil))) wNil)))
  (wSeq (wSet 3 (wOp roAdd (wVar 3) (wInt (wCons (wOp (roEq false) (wVar 3) (wC (.int 0))) wNil))))
  (wSeq (wIf (wTest (wOp (roEq false) (wCall W_law_take (wCons (wVar 0) (wCons (wC (.int 6)) wNil))) (wC (.int 0)))) (wSeq (wSet 2 (wMul (wVar 3) (wSub (wCall W_law_take (wCons (wVar 0) (wCons (wC (.int 7)) wNil))) (wC (.int 3)))))
  wNext) wNext)
  (wSeq (wSet 4 (wIx (wLst (wCons (wC (.int 1)) (wCons (wC (.int 1)) (wCons (wC (.int 2)) (wCons (wC (.int 999)) wNil))))) (wCall W_law_take (wCons (wVar 0) (wCons (wC (.int 4)) wNil)))))
  (wSeq (wRet (wTup (wCons (wMul (wVar 2) (wVar 4)) (wCons (wMul (wVar 3) (wVar 4)) wNil))))
  wNext))))))
/-- _law_number_fault -/
def p_law_number_fault : DS :=
  (wSeq (wIf (wOrB (wNotB (wTest (wIsi isInt [] (wVar 0)))) (wTest (wIsi isBool [] (wVar 0)))) (wSeq (wRet (wC (.str "WrongKind")))
  wNext) wNext)
  (wSeq (wIf (wOrB (wAndB (wTest (wOp (roIsN true) (wVar 1) (wC .non))) (wTest (wLt (wVar 0) (wVar 1)))) (wAndB (wTest (wOp (roIsN true) (wVar 2) (wC .non))) (wTest (wGt (wVar 0) (wVar 2))))) (wSeq (wRet (wC (.str "OutOfRange")))
  wNext) wNext)
  (wSeq (wRet (wC (.str "")))
  wNext)))
/-- _law_fraction_fault -/
def p_law_fraction_fault : DS :=
  (wSeq (wIf (wNotB (wTest (wIsi isTup [] (wVar 0)))) (wSeq (wRet (wC (.str "WrongKind")))
  wNext) wNext)
  (wSeq (wIf (wTest (wOp (roEq true) (wLen (wCons (wVar 0) wNil)) (wC (.int 2)))) (wSeq (wRet (wC (.str "WrongSize")))
  wNext) wNext)
  (wSeq (wIf (wTest (wOp (roEq true) (wCall W_law_number_fault (wCons (wIx (wVar 0) (wC (.int 0))) (wCons (wC .non) (wCons (wC .non) wNil)))) (wC (.str "")))) (wSeq (wRet (wC (.str "WrongKind")))
  wNext) wNext)
  (wSeq (wRet (wCall W_law_number_fault (wCons (wIx (wVar 0) (wC (.int 1))) (wCons (wC (.int 1)) (wCons (wC .non) wNil)))))
  wNext))))
/-- _law_first_fault -/
def p_law_first_fault : DS :=
  (wSeq (wFor (wItemsL (wVar 0)) (dgName 1) (wSeq (wIf (wTest (wOp (roEq true) (wIx (wVar 1) (wC (.int 1))) (wC (.str "")))) (wSeq (wRet (wTup (wCons (wIx (wVar 1) (wC (.int 1))) (wCons (wIx (wVar 1) (wC (.int 0))) wNil))))
  wNext) wNext)
  wNext))
  (wSeq (wRet (wC .non))
  wNext))
/-- _law_odd_number -/
def p_law_odd_number : DS :=
  (wSeq (wSet 3 (wC (.int 0)))
  (wSeq (wIf (wTest (wOp (roIsN true) (wVar 1) (wC .non))) (wSeq (wSet 3 (wVar 1))
  wNext) wNext)
  (wSeq (wSet 4 (wVar 3))
  (wSeq (wIf (wTest (wOp (roIsN true) (wVar 2) (wC .non))) (wSeq (wSet 4 (wVar 2))
  wNext) wNext)
  (wSeq (wSet 5 (wCall W_law_take (wCons (wVar 0) (wCons (wC (.int 14)) wNil))))
  (wSeq (wIf (wTest (wLt (wVar 5) (wC (.int 8)))) (wSeq (wRet (wIx (wLst (wCons (wC .non) (wCons (wC (.bl true)) (wCons (wC (.bl false)) (wCons (wC (.str "")) (wCons (wC (.str "1")) (wCons (wLst (wCons (wC (.int 0)) wNil)) (wCons (wTup (wCons (wC (.int 1)) wNil)) (wCons wDic0 wNil))))))))) (wVar 5)))
  wNext) wNext)
  (wSeq (wRet (wIx (wLst (wCons (wSub (wVar 3) (wC (.int 1))) (wCons (wOp roAdd (wVar 4) (wC (.int 1))) (wCons (wSub (wVar 3) (wPow (wC (.int 10)) (wC (.int 40)))) (wCons (wOp roAdd (wVar 4) (wPow (wC (.int 10)) (wC (.int 40)))) (wCons (wVar 3) (wCons (wVar 4) wNil))))))) (wSub (wVar 5) (wC (.int 8)))))
  wNext)))))))
/-- _law_odd_fraction -/
def p_law_odd_fraction : DS :=
  (wSeq (wSet 1 (wLst (wCons (wC .non) (wCons (wC (.int 1)) (wCons (wC (.str "1/2")) (wCons (wLst (wCons (wC (.int 1)) (wCons (wC (.int 2)) wNil))) (wCons (wTup wNil) (wCons (wTup (wCons (wC (.int 1)) wNil)) (wCons (wTup (wCons (wC (.int 1)) (wCons (wC (.int 2)) (wCons (wC (.int 3)) wNil)))) (wCons (wTup (wCons (wC (.bl true)) (wCons (wC (.int 2)) wNil))) (wCons (wTup (wCons (wC (.int 1)) (wCons (wC (.bl true)) wNil))) (wCons (wTup (wCons (wC (.str "1")) (wCons (wC (.int 2)) wNil))) (wCons (wTup (wCons (wC (.int 1)) (wCons (wC .non) wNil))) (wCons (wTup (wCons (wC .non) (wCons (wC (.int 0)) wNil))) wNil))))))))))))))
  (wSeq (wSet 1 (wOp roAdd (wVar 1) (wLst (wCons (wTup (wCons (wC (.int 1)) (wCons (wC (.int 0)) wNil))) (wCons (wTup (wCons (wC (.int 1)) (wCons (wNeg (wC (.int 2))) wNil))) (wCons (wTup (wCons (wC (.int 0)) (wCons (wC (.int 0)) wNil))) (wCons (wTup (wCons (wNeg (wC (.int 1))) (wCons (wNeg (wC (.int 1))) wNil))) (wCons (wTup (wCons (wPow (wC (.int 10)) (wC (.int 40))) (wCons (wC (.int 0)) wNil))) (wCons (wTup (wCons (wC (.int 0)) (wCons (wC (.int 1)) wNil))) (wCons (wTup (wCons (wNeg (wC (.int 6))) (wCons (wC (.int 4)) wNil))) wNil))))))))))
  (wSeq (wSet 1 (wOp roAdd (wVar 1) (wLst (wCons (wTup (wCons (wC (.str "1")) wNil)) (wCons (wTup (wCons (wC .non) (wCons (wC (.int 2)) (wCons (wC (.int 3)) wNil)))) (wCons (wTup (wCons (wC (.int 1)) (wCons (wC (.bl true)) (wCons (wC (.int 2)) wNil)))) (wCons (wTup (wCons (wC (.int 1)) (wCons (wC (.int 0)) (wCons (wC (.int 3)) wNil)))) (wCons (wTup (wCons (wC .non) wNil)) (wCons (wTup (wCons (wC (.int 1)) (wCons (wC (.int 2)) (wCons (wC (.str "3")) wNil)))) (wCons wDic0 wNil))))))))))
  (wSeq (wRet (wIx (wVar 1) (wCall W_law_take (wCons (wVar 0) (wCons (wLen (wCons (wVar 1) wNil)) wNil)))))
  wNext))))
end C
set_option maxRecDepth 100000
/-! D-level programs of the class of tables and of what its laws share, printed by gen_defs.py -/
namespace C
open PySem PySem.Spec PyProof.Rows L2 NdefX DL
/-- check_integer -/
def p_check_integer_tables : DS :=
  (wSeq (wIf (wOrB (wTest (wIsi isBool [] (wVar 1))) (wNotB (wTest (wIsi isInt [] (wVar 1))))) (wSeq (wRaise "WrongKind" (wVar 0))
  wNext) wNext)
  wNext)
/-- check_between -/
def p_check_between_tables : DS :=
  (wSeq (wDrop (wCall W_check_integer_tables (wCons (wVar 0) (wCons (wVar 1) wNil))))
  (wSeq (wIf (wOrB (wTest (wLt (wVar 1) (wVar 2))) (wTest (wGt (wVar 1) (wVar 3)))) (wSeq (wRaise "OutOfRange" (wVar 0))
  wNext) wNext)
  wNext))
/-- check_width -/
def p_check_width_tables : DS :=
  (wSeq (wDrop (wCall W_check_between_tables (wCons (wC (.str "width")) (wCons (wVar 0) (wCons (wC (.int 0)) (wCons (wC (.int 6)) wNil))))))
  wNext)
/-- check_word -/
def p_check_word_tables : DS :=
  (wSeq (wDrop (wCall W_check_between_tables (wCons (wVar 0) (wCons (wVar 2) (wCons (wC (.int 0)) (wCons (wSub (wShl (wC (.int 1)) (wVar 1)) (wC (.int 1))) wNil))))))
  wNext)
/-- check_row -/
def p_check_row_tables : DS :=
  (wSeq (wIf (wNotB (wTest (wIsi (orF isLst isTup) [] (wVar 1)))) (wSeq (wRaise "WrongKind" (wVar 0))
  wNext) wNext)
  (wSeq (wIf (wOrB (wTest (wLt (wLen (wCons (wVar 1) wNil)) (wVar 2))) (wTest (wGt (wLen (wCons (wVar 1) wNil)) (wVar 3)))) (wSeq (wRaise "WrongSize" (wVar 0))
  wNext) wNext)
  wNext))
/-- check_bits -/
def p_check_bits : DS :=
  (wSeq (wDrop (wCall W_check_row_tables (wCons (wC (.str "bits")) (wCons (wVar 0) (wCons (wVar 1) (wCons (wVar 2) wNil))))))
  (wSeq (wFor (wItemsLT (wVar 0)) (dgName 3) (wSeq (wDrop (wCall W_check_between_tables (wCons (wC (.str "bits")) (wCons (wVar 3) (wCons (wC (.int 0)) (wCons (wC (.int 1)) wNil))))))
  wNext))
  wNext))
/-- Table.__init__ -/
def p_Table_init (K : PySem.W.Frag) : DIb :=
  (iStm (wDrop (wCall W_check_width_tables (wCons (wVar 1) wNil)))
  (iStm (wDrop (wCall W_check_bits (wCons (wVar 2) (wCons (wShl (wC (.int 1)) (wVar 1)) (wCons (wShl (wC (.int 1)) (wVar 1)) wNil)))))
  (iFld K "Table" "wide" (wVar 1)
  (iFld K "Table" "held" (wTuple (wCons (wVar 2) wNil))
  iEnd))))
/-- Table.width -/
def p_Table_width : DS :=
  (wSeq (wRet (wFld okT "wide" (wVar 0)))
  wNext)
/-- Table.bits -/
def p_Table_bits : DS :=
  (wSeq (wRet (wFld okT "held" (wVar 0)))
  wNext)
/-- Table.ones -/
def p_Table_ones : DS :=
  (wSeq (wRet (wSumT (wCons (wFld okT "held" (wVar 0)) wNil)))
  wNext)
/-- Table.number -/
def p_Table_number : DS :=
  (wSeq (wSet 1 (wC (.int 0)))
  (wSeq (wFor (wItemsT (wRevT (wFld okT "held" (wVar 0)))) (dgName 2) (wSeq (wSet 1 (wOp roAdd (wMul (wVar 1) (wC (.int 2))) (wVar 2)))
  wNext))
  (wSeq (wRet (wVar 1))
  wNext)))
/-- Table.sign -/
def p_Table_sign : DS :=
  (wSeq (wDrop (wCall W_check_word_tables (wCons (wC (.str "word")) (wCons (wFld okT "wide" (wVar 0)) (wCons (wVar 1) wNil)))))
  (wSeq (wRet (wSub (wC (.int 1)) (wMul (wC (.int 2)) (wIx (wFld okT "held" (wVar 0)) (wVar 1)))))
  wNext))
/-- Table.signs -/
def p_Table_signs : DS :=
  (wSeq (wRet (wLc 1 (wItemsT (wFld okT "held" (wVar 0))) wTrue (wSub (wC (.int 1)) (wMul (wC (.int 2)) (wVar 1)))))
  wNext)
/-- Table.__len__ -/
def p_Table_len : DS :=
  (wSeq (wRet (wLen (wCons (wFld okT "held" (wVar 0)) wNil)))
  wNext)
/-- Table.__getitem__ -/
def p_Table_getitem : DS :=
  (wSeq (wDrop (wCall W_check_word_tables (wCons (wC (.str "word")) (wCons (wFld okT "wide" (wVar 0)) (wCons (wVar 1) wNil)))))
  (wSeq (wRet (wIx (wFld okT "held" (wVar 0)) (wVar 1)))
  wNext))
/-- Table.__eq__ -/
def p_Table_eq : DS :=
  (wSeq (wRet (wAndV (wIsi (isOwn "Table") [] (wVar 1)) (wAndV (wOp (roEq false) (wFld okT "wide" (wVar 0)) (wFld okT "wide" (wVar 1))) (wOp (roEq false) (wFld okT "held" (wVar 0)) (wFld okT "held" (wVar 1))))))
  wNext)
/-- Table.__add__ -/
def p_Table_add : DS :=
  (wSeq (wIf (wNotB (wTest (wIsi (isOwn "Table") [] (wVar 1)))) (wSeq wNever
  wNext) wNext)
  (wSeq (wIf (wTest (wOp (roEq true) (wFld okT "wide" (wVar 0)) (wFld okT "wide" (wVar 1)))) (wSeq (wRaise "WrongSize" (wC (.str "other")))
  wNext) wNext)
  (wSeq (wRet (wCall W_Table_init (wCons (wFld okT "wide" (wVar 0)) (wCons (wLc2 2 3 (wZip (wCons (wFld okT "held" (wVar 0)) (wCons (wFld okT "held" (wVar 1)) wNil))) wTrue (wXor2 (wVar 2) (wVar 3))) wNil))))
  wNext)))
/-- Table.__and__ -/
def p_Table_and : DS :=
  (wSeq (wIf (wNotB (wTest (wIsi (isOwn "Table") [] (wVar 1)))) (wSeq wNever
  wNext) wNext)
  (wSeq (wIf (wTest (wOp (roEq true) (wFld okT "wide" (wVar 0)) (wFld okT "wide" (wVar 1)))) (wSeq (wRaise "WrongSize" (wC (.str "other")))
  wNext) wNext)
  (wSeq (wRet (wCall W_Table_init (wCons (wFld okT "wide" (wVar 0)) (wCons (wLc2 2 3 (wZip (wCons (wFld okT "held" (wVar 0)) (wCons (wFld okT "held" (wVar 1)) wNil))) wTrue (wAnd2 (wVar 2) (wVar 3))) wNil))))
  wNext)))
/-- Table.__invert__ -/
def p_Table_invert : DS :=
  (wSeq (wRet (wCall W_Table_init (wCons (wFld okT "wide" (wVar 0)) (wCons (wLc 1 (wItemsT (wFld okT "held" (wVar 0))) wTrue (wSub (wC (.int 1)) (wVar 1))) wNil))))
  wNext)
/-- Table.__str__ -/
def p_Table_str : DS :=
  (wSeq (wSet 1 (wJoin "" (wLc 2 (wItemsT (wFld okT "held" (wVar 0))) wTrue (wStr (wCons (wVar 2) wNil)))))
  (wSeq (wRet (wFs ":" (wFld okT "wide" (wVar 0)) (wVar 1)))
  wNext))
/-- _law_size -/
def p_law_size : DS :=
  (wSeq (wSet 1 (wC (.int 0)))
  (wSeq (wFor (wRng1 (wCons (wC (.int 20)) wNil)) (dgName 2) (wSeq (wSet 1 (wOp roAdd (wVar 1) (wAnd2 (wShr (wVar 0) (wVar 2)) (wC (.int 1)))))
  (wSeq (wIf (wTest (wLt (wShr (wVar 0) (wVar 2)) (wC (.int 2)))) (wSeq wBreak
  wNext) wNext)
  wNext)))
  (wSeq (wRet (wVar 1))
  wNext)))
/-- _law_parity -/
def p_law_parity : DS :=
  (wSeq (wRet (wMod (wInt (wCons (wCall W_law_size (wCons (wAnd2 (wVar 0) (wVar 1)) wNil)) wNil)) (wC (.int 2))))
  wNext)
/-- _law_width -/
def p_law_width : DS :=
  (wSeq (wSet 3 (wIx (wLst (wCons (wC (.int 0)) (wCons (wC (.int 1)) (wCons (wC (.int 1)) (wCons (wC (.int 2)) (wCons (wC (.int 2)) (wCons (wC (.int 2)) (wCons (wC (.int 3)) (wCons (wC (.int 3)) (wCons (wC (.int 3)) (wCons (wC (.int 3)) (wCons (wC (.int 4)) (wCons (wC (.int 4)) (wCons (wC (.int 4)) (wCons (wC (.int 5)) (wCons (wC (.int 5)) (wCons (wC (.int 6)) wNil))))))))))))))))) (wCall W_law_take (wCons (wVar 0) (wCons (wC (.int 16)) wNil)))))
  (wSeq (wRet (wMax (wCons (wVar 1) (wCons (wMin (wCons (wVar 2) (wCons (wVar 3) wNil))) wNil))))
  wNext))
/-- _law_word -/
def p_law_word : DS :=
  (wSeq (wSet 2 (wSub (wShl (wC (.int 1)) (wVar 1)) (wC (.int 1))))
  (wSeq (wSet 3 (wCall W_law_take (wCons (wVar 0) (wCons (wC (.int 12)) wNil))))
  (wSeq (wIf (wTest (wLt (wVar 3) (wC (.int 2)))) (wSeq (wRet (wIx (wLst (wCons (wC (.int 0)) (wCons (wVar 2) wNil))) (wVar 3)))
  wNext) wNext)
  (wSeq (wIf (wAndB (wTest (wLt (wVar 3) (wC (.int 4)))) (wTest (wGt (wVar 1) (wC (.int 0))))) (wSeq (wSet 4 (wShl (wC (.int 1)) (wCall W_law_take (wCons (wVar 0) (wCons (wVar 1) wNil)))))
  (wSeq (wRet (wIx (wLst (wCons (wVar 4) (wCons (wSub (wVar 2) (wVar 4)) wNil))) (wSub (wVar 3) (wC (.int 2)))))
  wNext)) wNext)
  (wSeq (wRet (wCall W_law_take (wCons (wVar 0) (wCons (wOp roAdd (wVar 2) (wC (.int 1))) wNil))))
  wNext)))))
/-- _law_bits_of -/
def p_law_bits_of : DS :=
  (wSeq (wSet 3 (wShl (wC (.int 1)) (wVar 1)))
  (wSeq (wIf (wTest (wOp (roEq false) (wVar 2) (wC (.int 9)))) (wSeq (wRet (wCall W_law_bits_up (wCons (wVar 0) (wCons (wVar 1) wNil))))
  wNext) wNext)
  (wSeq (wSet 4 (wCall W_law_take (wCons (wVar 0) (wCons (wVar 3) wNil))))
  (wSeq (wSet 5 (wCall W_law_take (wCons (wVar 0) (wCons (wC (.int 2)) wNil))))
  (wSeq (wIf (wTest (wOp (roEq false) (wVar 2) (wC (.int 0)))) (wSeq (wRet (wLc 14 (wRng1 (wCons (wVar 3) wNil)) wTrue (wVar 5)))
  wNext) wNext)
  (wSeq (wIf (wTest (wOp (roEq false) (wVar 2) (wC (.int 1)))) (wSeq (wRet (wLc 14 (wRng1 (wCons (wVar 3) wNil)) wTrue (wXor2 (wCall W_law_parity (wCons (wVar 4) (wCons (wVar 14) wNil))) (wVar 5))))
  wNext) wNext)
  (wSeq (wIf (wTest (wOp (roEq false) (wVar 2) (wC (.int 2)))) (wSeq (wSet 6 (wLc 14 (wRng1 (wCons (wVar 3) wNil)) wTrue (wCall W_law_parity (wCons (wVar 4) (wCons (wVar 14) wNil)))))
  (wSeq (wFor (wRng1 (wCons (wOp roAdd (wC (.int 1)) (wCall W_law_take (wCons (wVar 0) (wCons (wOp roAdd (wFdiv (wVar 3) (wC (.int 4))) (wC (.int 1))) wNil)))) wNil)) (dgName 7) (wSeq (wSet 8 (wCall W_law_take (wCons (wVar 0) (wCons (wVar 3) wNil))))
  (wSeq (wSetIx 6 (wSub (wC (.int 1)) (wIxO 6 (wVar 8))) (wVar 8))
  wNext)))
  (wSeq (wRet (wVar 6))
  wNext))) wNext)
  (wSeq (wIf (wTest (wOp (roEq false) (wVar 2) (wC (.int 3)))) (wSeq (wRet (wLc 14 (wRng1 (wCons (wVar 3) wNil)) wTrue (wXor2 (wInt (wCons (wOp (roEq false) (wAnd2 (wVar 14) (wVar 4)) (wVar 4)) wNil)) (wVar 5))))
  wNext) wNext)
  (wSeq (wIf (wTest (wOp (roEq false) (wVar 2) (wC (.int 4)))) (wSeq (wSet 9 (wCall W_law_take (wCons (wVar 0) (wCons (wMul (wC (.int 2)) (wVar 3)) wNil))))
  (wSeq (wRet (wLc 14 (wRng1 (wCons (wVar 3) wNil)) wTrue (wAnd2 (wShr (wVar 9) (wCall W_law_size (wCons (wVar 14) wNil))) (wC (.int 1)))))
  wNext)) wNext)
  (wSeq (wIf (wTest (wOp (roEq false) (wVar 2) (wC (.int 5)))) (wSeq (wSet 10 (wLc 7 (wRng1 (wCons (wVar 1) wNil)) wTrue (wSub (wCall W_law_take (wCons (wVar 0) (wCons (wC (.int 7)) wNil))) (wC (.int 3)))))
  (wSeq (wSet 11 (wSub (wCall W_law_take (wCons (wVar 0) (wCons (wC (.int 7)) wNil))) (wC (.int 3))))
  (wSeq (wRet (wLc 14 (wRng1 (wCons (wVar 3) wNil)) wTrue (wInt (wCons (wGt (wSum (wCons (wLc 7 (wRng1 (wCons (wVar 1) wNil)) wTrue (wMul (wIx (wVar 10) (wVar 7)) (wAnd2 (wShr (wVar 14) (wVar 7)) (wC (.int 1))))) wNil)) (wVar 11)) wNil))))
  wNext))) wNext)
  (wSeq (wIf (wTest (wOp (roEq false) (wVar 2) (wC (.int 6)))) (wSeq (wSet 12 (wCall W_law_take (wCons (wVar 0) (wCons (wMax (wCons (wC (.int 1)) (wCons (wVar 1) wNil))) wNil))))
  (wSeq (wSet 13 (wCall W_law_take (wCons (wVar 0) (wCons (wMax (wCons (wC (.int 1)) (wCons (wVar 1) wNil))) wNil))))
  (wSeq (wSet 9 (wCall W_law_take (wCons (wVar 0) (wCons (wC (.int 16)) wNil))))
  (wSeq (wRet (wLc 14 (wRng1 (wCons (wVar 3) wNil)) wTrue (wAnd2 (wShr (wVar 9) (wOp roAdd (wAnd2 (wShr (wVar 14) (wVar 12)) (wC (.int 1))) (wMul (wC (.int 2)) (wAnd2 (wShr (wVar 14) (wVar 13)) (wC (.int 1)))))) (wC (.int 1)))))
  wNext)))) wNext)
  (wSeq (wIf (wTest (wOp (roEq false) (wVar 2) (wC (.int 7)))) (wSeq (wRet (wLc 14 (wRng1 (wCons (wVar 3) wNil)) wTrue (wXor2 (wXor2 (wCall W_law_parity (wCons (wC (.int 21)) (wCons (wAnd2 (wVar 14) (wShr (wVar 14) (wC (.int 1)))) wNil))) (wCall W_law_parity (wCons (wVar 4) (wCons (wVar 14) wNil)))) (wVar 5))))
  wNext) wNext)
  (wSeq (wRet (wLc 14 (wRng1 (wCons (wVar 3) wNil)) wTrue (wInt (wCons (wLt (wVar 14) (wOp roAdd (wVar 4) (wVar 5))) wNil))))
  wNext)))))))))))))
/-- _law_bits_up -/
def p_law_bits_up : DS :=
  (wSeq (wSet 2 (wLc 5 (wRng1 (wCons (wCall W_law_take (wCons (wVar 0) (wCons (wC (.int 4)) wNil))) wNil)) wTrue (wCall W_law_take (wCons (wVar 0) (wCons (wShl (wC (.int 1)) (wVar 1)) wNil)))))
  (wSeq (wSet 3 (wLc 6 (wRng1 (wCons (wShl (wC (.int 1)) (wVar 1)) wNil)) wTrue (wC (.int 0))))
  (wSeq (wFor (wItemsL (wVar 2)) (dgName 4) (wSeq (wSet 3 (wLc 6 (wRng1 (wCons (wLen (wCons (wVar 3) wNil)) wNil)) wTrue (wMax (wCons (wIx (wVar 3) (wVar 6)) (wCons (wInt (wCons (wOp (roEq false) (wAnd2 (wVar 6) (wVar 4)) (wVar 4)) wNil)) wNil)))))
  wNext))
  (wSeq (wRet (wVar 3))
  wNext))))
/-- _law_bits -/
def p_law_bits : DS :=
  (wSeq (wSet 2 (wCall W_law_take (wCons (wVar 0) (wCons (wC (.int 16)) wNil))))
  (wSeq (wIf (wTest (wLt (wVar 2) (wC (.int 10)))) (wSeq (wRet (wCall W_law_bits_of (wCons (wVar 0) (wCons (wVar 1) (wCons (wVar 2) wNil)))))
  wNext) wNext)
  (wSeq (wSet 3 (wCall W_law_take (wCons (wVar 0) (wCons (wShl (wC (.int 1)) (wShl (wC (.int 1)) (wVar 1))) wNil))))
  (wSeq (wRet (wLc 4 (wRng1 (wCons (wShl (wC (.int 1)) (wVar 1)) wNil)) wTrue (wAnd2 (wShr (wVar 3) (wVar 4)) (wC (.int 1)))))
  wNext))))
end C
set_option Elab.async false
set_option maxRecDepth 100000
set_option maxHeartbeats 1000000
set_option linter.unusedVariables false
/-! promises that laws on tables share: instances among the values, the class of asked objects -/
namespace C
open PySem PySem.Spec PyProof.Rows L2 NdefX DL
def okI : Str → Bool := fun c => c == "Table" || c == "Asked"
def isT (d : D) : Option Bool := isOwnX okI "Table" d
def isJ (d : D) : Option Bool := insF okI isI d
def askD (w : Nat) (l : List Nat) : D := .ins "Asked" ["held_table", "held_limit", "held_words"] [tb w l, .non, .lst []]
/-- told -/
def toldD : Kd → D
  | .ok d => .tup [.str "answer", d]
  | .error ⟨c, some a⟩ => .tup [.str "refused", .tup [.str c, a]]
  | .error ⟨c, none⟩ => .non
/-! ### checks -/
def f_chkT : List D → Option Kd
  | [d, .str z] => if z.length ≤ 1000 then (isT d).map fun b => if b = true then .ok .non else .error (Er1 "WrongKind" z) else none
  | _ => none
def W_check_table_pairs : DW1 := WF f_chkT
def W_check_table_shades : DW1 := WF f_chkT
def W_check_table_asking : DW1 := WF fun ds => match ds with | [d] => f_chkT [d, .str "table"] | _ => none
def W_check_integer_asking : DW1 := fun _ _ _ => False
def W_Asked_init : DW1 := fun ds Q _ => ∃ w l, ds = [tb w l, .non] ∧ TB w l ∧ Q (.sh (askD w l))
/-- a number, or what is wrong with it -/
def f_chkJ : List D → Option Kd
  | [d, .int lo, .int hi, .str z] => if z.length ≤ 1000 then (match d with
    | .int i => some (if betw i lo hi then .ok .non else .error (Er1 "OutOfRange" z))
    | d => (isJ d).map fun _ => .error (Er1 "WrongKind" z)) else none
  | _ => none
def fltJ (d lo hi : D) : Option Str := match d with
  | .ins c _ _ => if okI c = true then some "WrongKind" else none
  | d => fltN d lo hi
def W_law_number_fault_iv : DW1 := WF fun ds => match ds with | [d, lo, hi] => (fltJ d lo hi).map fun z => .ok (.str z) | _ => none
def W_law_odd_number_iv : DW1 := WG (fun ds => ∃ lo hi, ds = [.sto, .int lo, .int hi] ∧ Bd 200 lo ∧ Bd 200 hi) (fun _ z => ∃ d, z = .sh d ∧ (isJ d).isSome = true ∧ ∀ i, d = .int i → Bd 210 i) noX
def W_law_odd_table : DW1 := WG (fun ds => ds = [.sto]) (fun _ z => ∃ d, z = .sh d ∧ isT d = some false) noX
def W_law_is_table : DW1 := fun ds Q _ => ∃ w l, ds = [tb w l, .int w, .lst (nD l)] ∧ TB w l ∧ Q (.sh (.bl true))
def W_law_pick : DW1 := WG (fun ds => ∃ l : List D, ds = [.sto, .lst l] ∧ l ≠ [] ∧ l.length ≤ 1000) (fun ds z => ∃ l d, ds = [.sto, .lst l] ∧ d ∈ l ∧ z = .sh d) noX
def W_law_refusal (pn : Addr × Obj) : DW1 := WG (fun ds => ∃ c a, ds = [.exc c (some a) pn.1 pn.2] ∧ (c = "WrongKind" ∨ c = "WrongSize" ∨ c = "OutOfRange")) (fun ds z => ∃ c a, ds = [.exc c (some a) pn.1 pn.2] ∧ z = .sh (.tup [.str c, a])) noX
theorem mono_law_refusal (pn : Addr × Obj) : MonoW (W_law_refusal pn) := WG_mono
theorem len_law_refusal (pn : Addr × Obj) : ∀ ds Q E, W_law_refusal pn ds Q E → ds.length = 1 := fun _ _ _ ⟨⟨_, _, e, _⟩, _⟩ => by rw [e]; rfl
theorem mono_check_table_pairs : MonoW W_check_table_pairs := WF_mono
theorem mono_check_table_shades : MonoW W_check_table_shades := WF_mono
theorem mono_check_table_asking : MonoW W_check_table_asking := WF_mono
theorem mono_check_integer_asking : MonoW W_check_integer_asking := fun _ _ _ _ _ _ _ h => h
theorem mono_Asked_init : MonoW W_Asked_init := fun _ _ _ _ _ hq _ ⟨w, l, a, b, c⟩ => ⟨w, l, a, b, hq _ c⟩
theorem mono_law_number_fault_iv : MonoW W_law_number_fault_iv := WF_mono
theorem mono_law_odd_number_iv : MonoW W_law_odd_number_iv := WG_mono
theorem mono_law_odd_table : MonoW W_law_odd_table := WG_mono
theorem mono_law_is_table : MonoW W_law_is_table := fun _ _ _ _ _ hq _ ⟨w, l, a, b, c⟩ => ⟨w, l, a, b, hq _ c⟩
theorem mono_law_pick : MonoW W_law_pick := WG_mono
theorem len_chkT : ∀ ds, (f_chkT ds).isSome = true → ds.length = 2 := fun ds h => by
  unfold f_chkT at h; split at h <;> first | rfl | cases h
theorem len_check_table_pairs : ∀ ds Q E, W_check_table_pairs ds Q E → ds.length = 2 := lenT len_chkT
theorem len_check_table_shades : ∀ ds Q E, W_check_table_shades ds Q E → ds.length = 2 := lenT len_chkT
theorem len_check_table_asking : ∀ ds Q E, W_check_table_asking ds Q E → ds.length = 1 := lenT fun ds h => by
  split at h <;> first | rfl | cases h
theorem len_Asked_init : ∀ ds Q E, W_Asked_init ds Q E → ds.length = 2 := fun _ _ _ ⟨_, _, e, _⟩ => by rw [e]; rfl
theorem len_law_number_fault_iv : ∀ ds Q E, W_law_number_fault_iv ds Q E → ds.length = 3 := lenF fun ds r h => by split at h <;> first | rfl | cases h
theorem len_law_odd_number_iv : ∀ ds Q E, W_law_odd_number_iv ds Q E → ds.length = 3 := fun _ _ _ ⟨⟨_, _, e, _⟩, _⟩ => by rw [e]; rfl
theorem len_law_odd_table : ∀ ds Q E, W_law_odd_table ds Q E → ds.length = 1 := fun _ _ _ ⟨e, _⟩ => by rw [e]; rfl
theorem len_law_is_table : ∀ ds Q E, W_law_is_table ds Q E → ds.length = 3 := fun _ _ _ ⟨_, _, e, _⟩ => by rw [e]; rfl
theorem len_law_pick : ∀ ds Q E, W_law_pick ds Q E → ds.length = 2 := fun _ _ _ ⟨⟨_, e, _⟩, _⟩ => by rw [e]; rfl
end C
set_option maxRecDepth 100000
/-! D-level programs that laws on tables share, printed by gen_defs.py -/
namespace C
open PySem PySem.Spec PyProof.Rows L2 NdefX DL
/-- check_table_pairs -/
def p_check_table_pairs : DS :=
  (wSeq (wIf (wNotB (wTest (wIsi (isOwnX okI "Table") [] (wVar 0)))) (wSeq (wRaise "WrongKind" (wVar 1))
  wNext) wNext)
  wNext)
/-- check_table_asking -/
def p_check_table_asking : DS :=
  (wSeq (wIf (wNotB (wTest (wIsi (isOwnX okI "Table") [] (wVar 0)))) (wSeq (wRaise "WrongKind" (wC (.str "table")))
  wNext) wNext)
  wNext)
/-- Asked.__init__ -/
def p_Asked_init (K : PySem.W.Frag) : DIb :=
  (iStm (wDrop (wCall W_check_table_asking (wCons (wVar 1) wNil)))
  (iStm (wIf (wTest (wOp (roIsN true) (wVar 2) (wC .non))) (wSeq (wDrop (wCall W_check_integer_asking (wCons (wVar 2) (wCons (wC (.int 0)) (wCons (wC (.int 10000)) (wCons (wC (.str "limit")) wNil))))))
  wNext) wNext)
  (iFld K "Asked" "held_table" (wVar 1)
  (iFld K "Asked" "held_limit" (wVar 2)
  (iFld K "Asked" "held_words" (wLst wNil)
  iEnd)))))
/-- _law_is_table -/
def p_law_is_table : DS :=
  (wSeq (wIf (wNotB (wTest (wIsi (isOwnX okI "Table") [] (wVar 0)))) (wSeq (wRet (wC (.bl false)))
  wNext) wNext)
  (wSeq (wRet (wAndV (wCall (W_law_same 6) (wCons (wGet "Table" W_Table_width (wVar 0)) (wCons (wVar 1) wNil))) (wCall (W_law_same 6) (wCons (wGet "Table" W_Table_bits (wVar 0)) (wCons (wTuple (wCons (wVar 2) wNil)) wNil)))))
  wNext))
/-- _law_pick -/
def p_law_pick : DS :=
  (wSeq (wRet (wIx (wVar 1) (wCall W_law_take (wCons (wVar 0) (wCons (wLen (wCons (wVar 1) wNil)) wNil)))))
  wNext)
/-- _law_number_fault -/
def p_law_number_fault_iv : DS :=
  (wSeq (wIf (wOrB (wNotB (wTest (wIsi (insF okI isInt) [] (wVar 0)))) (wTest (wIsi (insF okI isBool) [] (wVar 0)))) (wSeq (wRet (wC (.str "WrongKind")))
  wNext) wNext)
  (wSeq (wIf (wOrB (wAndB (wTest (wOp (roIsN true) (wVar 1) (wC .non))) (wTest (wLt (wVar 0) (wVar 1)))) (wAndB (wTest (wOp (roIsN true) (wVar 2) (wC .non))) (wTest (wGt (wVar 0) (wVar 2))))) (wSeq (wRet (wC (.str "OutOfRange")))
  wNext) wNext)
  (wSeq (wRet (wC (.str "")))
  wNext)))
/-- _law_odd_number -/
def p_law_odd_number_iv : DS :=
  (wSeq (wSet 3 (wC (.int 0)))
  (wSeq (wIf (wTest (wOp (roIsN true) (wVar 1) (wC .non))) (wSeq (wSet 3 (wVar 1))
  wNext) wNext)
  (wSeq (wSet 4 (wVar 3))
  (wSeq (wIf (wTest (wOp (roIsN true) (wVar 2) (wC .non))) (wSeq (wSet 4 (wVar 2))
  wNext) wNext)
  (wSeq (wSet 5 (wCall W_law_take (wCons (wVar 0) (wCons (wC (.int 15)) wNil))))
  (wSeq (wIf (wTest (wLt (wVar 5) (wC (.int 9)))) (wSeq (wRet (wIx (wLst (wCons (wC .non) (wCons (wC (.bl true)) (wCons (wC (.bl false)) (wCons (wC (.str "")) (wCons (wC (.str "1")) (wCons (wLst (wCons (wC (.int 0)) wNil)) (wCons (wTup (wCons (wC (.int 1)) wNil)) (wCons wDic0 (wCons (wCall W_Table_init (wCons (wC (.int 0)) (wCons (wLst (wCons (wC (.int 1)) wNil)) wNil))) wNil)))))))))) (wVar 5)))
  wNext) wNext)
  (wSeq (wRet (wIx (wLst (wCons (wSub (wVar 3) (wC (.int 1))) (wCons (wOp roAdd (wVar 4) (wC (.int 1))) (wCons (wSub (wVar 3) (wPow (wC (.int 10)) (wC (.int 40)))) (wCons (wOp roAdd (wVar 4) (wPow (wC (.int 10)) (wC (.int 40)))) (wCons (wVar 3) (wCons (wVar 4) wNil))))))) (wSub (wVar 5) (wC (.int 9)))))
  wNext)))))))
/-- _law_odd_table -/
def p_law_odd_table : DS :=
  (wSeq (wSet 1 (wLst (wCons (wC .non) (wCons (wC (.int 0)) (wCons (wC (.bl true)) (wCons (wC (.str "1:01")) (wCons (wLst (wCons (wC (.int 0)) (wCons (wC (.int 1)) wNil))) (wCons (wTup (wCons (wC (.int 0)) (wCons (wC (.int 1)) wNil))) (wCons (wLst wNil) (wCons (wC (.str "")) (wCons (wC (.int 2)) (wCons wDic0 (wCons (wCall (lackN W_Asked_init) (wCons (wCall W_Table_init (wCons (wC (.int 1)) (wCons (wLst (wCons (wC (.int 0)) (wCons (wC (.int 1)) wNil))) wNil))) wNil)) wNil)))))))))))))
  (wSeq (wRet (wIx (wVar 1) (wCall W_law_take (wCons (wVar 0) (wCons (wC (.int 11)) wNil)))))
  wNext))
end C
set_option Elab.async false
set_option maxRecDepth 100000
set_option maxHeartbeats 1000000
set_option linter.unusedVariables false
/-! promises of the defs of the law on votes at a word -/
namespace C
open PySem PySem.Spec PyProof.Rows L2 NdefX DL
/-- at how many words l differs from itself moved by m -/
def onesN (l : List Nat) (m : Nat) : Nat := ((List.range l.length).map fun x => if l.getD x 0 = l.getD (m ^^^ x) 0 then 0 else 1).sum
def votesD (l : List Nat) (m : Nat) : D := .tup [.int (l.length - onesN l m), .int (onesN l m : Nat)]
def marginD (l : List Nat) (m : Nat) : D := .int (l.length - onesN l m - (onesN l m : Nat))
/-- a word of the width w, or what is wrong with it -/
def wordJ (w : Nat) (d : D) (g : Nat → D) : Option Kd := match f_chkJ [d, .int 0, .int (2 ^ w - 1), .str "word"] with
  | some (.ok _) => (match d with
    | .int i => some (.ok (g i.toNat))
    | _ => none)
  | r => r
inductive VotesR (g : List Nat → Nat → D) : D → D → Kd → Prop
  | bad {d x : D} : isT d = some false → VotesR g d x (.error (Er1 "WrongKind" "table"))
  | good {w : Nat} {l : List Nat} {x : D} {r : Kd} : TB w l → wordJ w x (g l) = some r → VotesR g (tb w l) x r
def W_votes (g : List Nat → Nat → D) : DW1 := fun ds Q E => ∃ d x r, ds = [d, x] ∧ VotesR g d x r ∧ (∀ v, r = .ok v → Q (.sh v)) ∧ ∀ e, r = .error e → E e
theorem votes_mono {g : List Nat → Nat → D} : MonoW (W_votes g) := fun _ _ _ _ _ hq he ⟨d, x, r, a, b, c, e⟩ => ⟨d, x, r, a, b, fun v k => hq _ (c v k), fun v k => he _ (e v k)⟩
theorem votes_len {g : List Nat → Nat → D} : ∀ ds Q E, W_votes g ds Q E → ds.length = 2 := fun _ _ _ ⟨_, _, _, e, _⟩ => by rw [e]; rfl
def W_holds_integer : DW1 := fun ds Q _ => ∃ d b, ds = [d] ∧ isJ d = some b ∧ Q (.sh (.bl b))
def f_check_bounds : List D → Option Kd
  | [d, .str z, .int lo, .int hi] => f_chkJ [d, .int lo, .int hi, .str z]
  | _ => none
def W_check_bounds : DW1 := WF f_check_bounds
def W_counted_votes : DW1 := fun ds Q _ => ∃ w l m, ds = [.tup (nD l), .int (m : Nat)] ∧ TB w l ∧ m < 2 ^ w ∧ Q (.sh (votesD l m))
def W_votes_at : DW1 := W_votes votesD
def W_margin : DW1 := W_votes marginD
def AskR (k : Int) (d x : D) (r : Kd) : Prop := (k = 0 ∨ k = 2) ∧ VotesR votesD d x r ∨ (k = 1 ∨ k = 3) ∧ VotesR marginD d x r
def W_law_ask : DW1 := fun ds Q E => ∃ k d x r, ds = [.int k, .lst [d, x]] ∧ AskR k d x r ∧ (∀ v, r = .ok v → Q (.sh v)) ∧ ∀ e, r = .error e → E e
def W_law_told : DW1 := fun ds Q _ => ∃ k d x r, ds = [.int k, .lst [d, x]] ∧ AskR k d x r ∧ Q (.sh (toldD r))
def W_law_votes : DW1 := fun ds Q _ => ∃ w l m, ds = [.lst (nD l), .int (m : Nat)] ∧ TB w l ∧ m < 2 ^ w ∧ Q (.sh (votesD l m))
def dueD (k : Int) (l : List Nat) (m : Nat) : D := if k = 0 ∨ k = 2 then votesD l m else marginD l m
def W_law_due : DW1 := fun ds Q _ => ∃ k w l m, ds = [.int k, .lst (nD l), .int (m : Nat)] ∧ TB w l ∧ m < 2 ^ w ∧ Q (.sh (dueD k l m))
def W_law_here : DW1 := WG (fun ds => ∃ w : Nat, ds = [.sto, .int w] ∧ w ≤ 6) (fun ds z => ∃ (w : Nat) (ms : List Nat), ds = [.sto, .int w] ∧ z = .sh (.lst (nD ms)) ∧ (∀ m ∈ ms, m < 2 ^ w) ∧ ms ≠ [] ∧ ms.length ≤ 64) noX
def W_law_call : DW1 := fun ds Q _ => ∃ w l, ds = [.sto, tb w l, .int w, .lst (nD l)] ∧ TB w l ∧ Q (.sh (.bl true))
theorem mono_holds_integer : MonoW W_holds_integer := fun _ _ _ _ _ hq _ ⟨d, b, x, y, z⟩ => ⟨d, b, x, y, hq _ z⟩
theorem mono_check_bounds : MonoW W_check_bounds := WF_mono
theorem mono_counted_votes : MonoW W_counted_votes := fun _ _ _ _ _ hq _ ⟨w, l, m, a, b, c, d⟩ => ⟨w, l, m, a, b, c, hq _ d⟩
theorem mono_votes_at : MonoW W_votes_at := votes_mono
theorem mono_margin : MonoW W_margin := votes_mono
theorem mono_law_ask : MonoW W_law_ask := fun _ _ _ _ _ hq he ⟨k, d, x, r, a, b, c, e⟩ => ⟨k, d, x, r, a, b, fun v k => hq _ (c v k), fun v k => he _ (e v k)⟩
theorem mono_law_told : MonoW W_law_told := fun _ _ _ _ _ hq _ ⟨k, d, x, r, a, b, c⟩ => ⟨k, d, x, r, a, b, hq _ c⟩
theorem mono_law_votes : MonoW W_law_votes := fun _ _ _ _ _ hq _ ⟨w, l, m, a, b, c, d⟩ => ⟨w, l, m, a, b, c, hq _ d⟩
theorem mono_law_due : MonoW W_law_due := fun _ _ _ _ _ hq _ ⟨k, w, l, m, a, b, c, d⟩ => ⟨k, w, l, m, a, b, c, hq _ d⟩
theorem mono_law_here : MonoW W_law_here := WG_mono
theorem mono_law_call : MonoW W_law_call := fun _ _ _ _ _ hq _ ⟨w, l, a, b, c⟩ => ⟨w, l, a, b, hq _ c⟩
theorem len_holds_integer : ∀ ds Q E, W_holds_integer ds Q E → ds.length = 1 := fun _ _ _ ⟨_, _, e, _⟩ => by rw [e]; rfl
theorem len_check_bounds : ∀ ds Q E, W_check_bounds ds Q E → ds.length = 4 := lenT fun ds h => by
  unfold f_check_bounds at h; split at h <;> first | rfl | cases h
theorem len_counted_votes : ∀ ds Q E, W_counted_votes ds Q E → ds.length = 2 := fun _ _ _ ⟨_, _, _, e, _⟩ => by rw [e]; rfl
theorem len_votes_at : ∀ ds Q E, W_votes_at ds Q E → ds.length = 2 := votes_len
theorem len_margin : ∀ ds Q E, W_margin ds Q E → ds.length = 2 := votes_len
theorem len_law_ask : ∀ ds Q E, W_law_ask ds Q E → ds.length = 2 := fun _ _ _ ⟨_, _, _, _, e, _⟩ => by rw [e]; rfl
theorem len_law_told : ∀ ds Q E, W_law_told ds Q E → ds.length = 2 := fun _ _ _ ⟨_, _, _, _, e, _⟩ => by rw [e]; rfl
theorem len_law_votes : ∀ ds Q E, W_law_votes ds Q E → ds.length = 2 := fun _ _ _ ⟨_, _, _, e, _⟩ => by rw [e]; rfl
theorem len_law_due : ∀ ds Q E, W_law_due ds Q E → ds.length = 3 := fun _ _ _ ⟨_, _, _, _, e, _⟩ => by rw [e]; rfl
theorem len_law_here : ∀ ds Q E, W_law_here ds Q E → ds.length = 2 := fun _ _ _ ⟨⟨_, e, _⟩, _⟩ => by rw [e]; rfl
theorem len_law_call : ∀ ds Q E, W_law_call ds Q E → ds.length = 4 := fun _ _ _ ⟨_, _, e, _⟩ => by rw [e]; rfl
end C
set_option maxRecDepth 100000
/-! D-level programs, printed by gen_defs.py -/
namespace C
open PySem PySem.Spec PyProof.Rows L2 NdefX DL
def errs : List Str := ["ShadeError", "WrongKind", "WrongSize", "OutOfRange", "BadText", "NotATable", "Spent", "TooFewPlaces", "WrongPaper", "UnknownName", "NameTaken", "NothingToUndo", "BookFull"]
def inis : List Str := ["WrongKind", "WrongSize", "OutOfRange", "BadText", "Spent", "WrongPaper", "UnknownName", "NameTaken"]
def okX : Str → Bool := fun c => inis.contains c
-- DIFFERS p_check_integer_tables-- DIFFERS p_check_word_tables/-- holds_integer -/
def p_holds_integer : DS :=
  (wSeq (wRet (wAndV (wIsi (insF okI isInt) [] (wVar 0)) (wNotV (wIsi (insF okI isBool) [] (wVar 0)))))
  wNext)
/-- check_bounds -/
def p_check_bounds : DS :=
  (wSeq (wIf (wNotB (wTest (wCall W_holds_integer (wCons (wVar 0) wNil)))) (wSeq (wRaise "WrongKind" (wVar 1))
  wNext) wNext)
  (wSeq (wIf (wOrB (wTest (wLt (wVar 0) (wVar 2))) (wTest (wGt (wVar 0) (wVar 3)))) (wSeq (wRaise "OutOfRange" (wVar 1))
  wNext) wNext)
  wNext))
/-- counted_votes -/
def p_counted_votes : DS :=
  (wSeq (wSet 2 (wSum (wCons (wLc 3 (wRng1 (wCons (wLen (wCons (wVar 0) wNil)) wNil)) wTrue (wXor2 (wIx (wVar 0) (wVar 3)) (wIx (wVar 0) (wXor2 (wVar 1) (wVar 3))))) wNil)))
  (wSeq (wRet (wTup (wCons (wSub (wLen (wCons (wVar 0) wNil)) (wVar 2)) (wCons (wVar 2) wNil))))
  wNext))
/-- votes_at -/
def p_votes_at : DS :=
  (wSeq (wDrop (wCall W_check_table_pairs (wCons (wVar 0) (wCons (wC (.str "table")) wNil))))
  (wSeq (wDrop (wCall W_check_bounds (wCons (wVar 1) (wCons (wC (.str "word")) (wCons (wC (.int 0)) (wCons (wSub (wShl (wC (.int 1)) (wGet "Table" W_Table_width (wVar 0))) (wC (.int 1))) wNil))))))
  (wSeq (wRet (wCall W_counted_votes (wCons (wGet "Table" W_Table_bits (wVar 0)) (wCons (wVar 1) wNil))))
  wNext)))
/-- margin -/
def p_margin : DS :=
  (wSeq (wUnp2 2 3 (wCall W_votes_at (wCons (wVar 0) (wCons (wVar 1) wNil))))
  (wSeq (wRet (wSub (wVar 2) (wVar 3)))
  wNext))
/-- _law_kinds -/
def p_law_kinds (pn : Addr × Obj) : DS :=
  (wSeq (wSet 1 (wLst wNil))
  (wSeq (wIf (wTest (wIsi (isCls errs "WrongKind") [pn] (wVar 0))) (wSeq (wAppend 1 (wC (.str "WrongKind")))
  wNext) wNext)
  (wSeq (wIf (wTest (wIsi (isCls errs "WrongSize") [pn] (wVar 0))) (wSeq (wAppend 1 (wC (.str "WrongSize")))
  wNext) wNext)
  (wSeq (wIf (wTest (wIsi (isCls errs "OutOfRange") [pn] (wVar 0))) (wSeq (wAppend 1 (wC (.str "OutOfRange")))
  wNext) wNext)
  (wSeq (wIf (wTest (wIsi (isCls errs "BadText") [pn] (wVar 0))) (wSeq (wAppend 1 (wC (.str "BadText")))
  wNext) wNext)
  (wSeq (wIf (wTest (wIsi (isCls errs "NotATable") [pn] (wVar 0))) (wSeq (wAppend 1 (wC (.str "NotATable")))
  wNext) wNext)
  (wSeq (wIf (wTest (wIsi (isCls errs "Spent") [pn] (wVar 0))) (wSeq (wAppend 1 (wC (.str "Spent")))
  wNext) wNext)
  (wSeq (wIf (wTest (wIsi (isCls errs "TooFewPlaces") [pn] (wVar 0))) (wSeq (wAppend 1 (wC (.str "TooFewPlaces")))
  wNext) wNext)
  (wSeq (wIf (wTest (wIsi (isCls errs "WrongPaper") [pn] (wVar 0))) (wSeq (wAppend 1 (wC (.str "WrongPaper")))
  wNext) wNext)
  (wSeq (wIf (wTest (wIsi (isCls errs "UnknownName") [pn] (wVar 0))) (wSeq (wAppend 1 (wC (.str "UnknownName")))
  wNext) wNext)
  (wSeq (wIf (wTest (wIsi (isCls errs "NameTaken") [pn] (wVar 0))) (wSeq (wAppend 1 (wC (.str "NameTaken")))
  wNext) wNext)
  (wSeq (wIf (wTest (wIsi (isCls errs "NothingToUndo") [pn] (wVar 0))) (wSeq (wAppend 1 (wC (.str "NothingToUndo")))
  wNext) wNext)
  (wSeq (wIf (wTest (wIsi (isCls errs "BookFull") [pn] (wVar 0))) (wSeq (wAppend 1 (wC (.str "BookFull")))
  wNext) wNext)
  (wSeq (wRet (wVar 1))
  wNext))))))))))))))
/-- _law_refusal -/
def p_law_refusal (pn : Addr × Obj) : DS :=
  (wSeq (wSet 1 (wCall (W_law_kinds pn) (wCons (wVar 0) wNil)))
  (wSeq (wIf (wOrB (wTest (wOp (roEq true) (wLen (wCons (wVar 1) wNil)) (wC (.int 1)))) (wNotB (wTest (wIsi (isVE errs) [pn] (wVar 0))))) (wSeq (wRet (wTup (wCons (wC (.str "wrong classes")) (wCons (wVar 1) wNil))))
  wNext) wNext)
  (wSeq (wIf (wTest (wOp (roIn false) (wIx (wVar 1) (wC (.int 0))) (wLst (wCons (wC (.str "WrongKind")) (wCons (wC (.str "WrongSize")) (wCons (wC (.str "OutOfRange")) wNil)))))) (wSeq (wRet (wTup (wCons (wIx (wVar 1) (wC (.int 0))) (wCons (wXf okX [pn] "argument" (wVar 0)) wNil))))
  wNext) wNext)
  (wSeq (wIf (wTest (wOp (roEq false) (wIx (wVar 1) (wC (.int 0))) (wC (.str "BadText")))) (wSeq (wRet (wTup (wCons (wIx (wVar 1) (wC (.int 0))) (wCons (wXf okX [pn] "position" (wVar 0)) wNil))))
  wNext) wNext)
  (wSeq (wIf (wTest (wOp (roEq false) (wIx (wVar 1) (wC (.int 0))) (wC (.str "Spent")))) (wSeq (wRet (wTup (wCons (wIx (wVar 1) (wC (.int 0))) (wCons (wXf okX [pn] "allowed" (wVar 0)) wNil))))
  wNext) wNext)
  (wSeq (wIf (wTest (wOp (roEq false) (wIx (wVar 1) (wC (.int 0))) (wC (.str "TooFewPlaces")))) (wSeq wNever
  wNext) wNext)
  (wSeq (wIf (wTest (wOp (roEq false) (wIx (wVar 1) (wC (.int 0))) (wC (.str "WrongPaper")))) (wSeq (wRet (wTup (wCons (wIx (wVar 1) (wC (.int 0))) (wCons (wXf okX [pn] "paper_of" (wVar 0)) wNil))))
  wNext) wNext)
  (wSeq (wIf (wTest (wOp (roEq false) (wIx (wVar 1) (wC (.int 0))) (wC (.str "UnknownName")))) (wSeq (wRet (wTup (wCons (wIx (wVar 1) (wC (.int 0))) (wCons (wXf okX [pn] "missing" (wVar 0)) wNil))))
  wNext) wNext)
  (wSeq (wIf (wTest (wOp (roEq false) (wIx (wVar 1) (wC (.int 0))) (wC (.str "NameTaken")))) (wSeq (wRet (wTup (wCons (wIx (wVar 1) (wC (.int 0))) (wCons (wXf okX [pn] "taken" (wVar 0)) wNil))))
  wNext) wNext)
  (wSeq (wRet (wTup (wCons (wIx (wVar 1) (wC (.int 0))) (wCons (wC .non) wNil))))
  wNext))))))))))
/-- _law_told -/
def p_law_told : DS :=
  (wSeq (wTry (caSE errs) 2 (wSeq (wRet (wTup (wCons (wC (.str "answer")) (wCons (wCall W_law_ask (wCons (wVar 0) (wCons (wVar 1) wNil))) wNil))))
  wNext) (fun a oe => (wSeq (wRet (wTup (wCons (wC (.str "refused")) (wCons (wCall (W_law_refusal (a, oe)) (wCons (wVar 2) wNil)) wNil))))
  wNext)))
  wNext)
/-- _law_ask -/
def p_law_ask : DS :=
  (wSeq (wIf (wTest (wOp (roEq false) (wVar 0) (wC (.int 0)))) (wSeq (wRet (wCall W_votes_at (wCons (wIx (wVar 1) (wC (.int 0))) (wCons (wIx (wVar 1) (wC (.int 1))) wNil))))
  wNext) wNext)
  (wSeq (wIf (wTest (wOp (roEq false) (wVar 0) (wC (.int 1)))) (wSeq (wRet (wCall W_margin (wCons (wIx (wVar 1) (wC (.int 0))) (wCons (wIx (wVar 1) (wC (.int 1))) wNil))))
  wNext) wNext)
  (wSeq (wIf (wTest (wOp (roEq false) (wVar 0) (wC (.int 2)))) (wSeq (wRet (wCall (fun ds Q E => W_votes_at (permL [1, 0] ds) Q E) (wCons (wIx (wVar 1) (wC (.int 1))) (wCons (wIx (wVar 1) (wC (.int 0))) wNil))))
  wNext) wNext)
  (wSeq (wRet (wCall (fun ds Q E => W_margin (permL [0, 1] ds) Q E) (wCons (wIx (wVar 1) (wC (.int 0))) (wCons (wIx (wVar 1) (wC (.int 1))) wNil))))
  wNext))))
/-- _law_votes -/
def p_law_votes : DS :=
  (wSeq (wSet 2 (wC (.int 0)))
  (wSeq (wFor (wRng1 (wCons (wLen (wCons (wVar 0) wNil)) wNil)) (dgName 3) (wSeq (wIf (wTest (wOp (roEq false) (wIx (wVar 0) (wVar 3)) (wIx (wVar 0) (wXor2 (wVar 1) (wVar 3))))) (wSeq (wSet 2 (wOp roAdd (wVar 2) (wC (.int 1))))
  wNext) wNext)
  wNext))
  (wSeq (wRet (wTup (wCons (wVar 2) (wCons (wSub (wLen (wCons (wVar 0) wNil)) (wVar 2)) wNil))))
  wNext)))
/-- _law_due -/
def p_law_due : DS :=
  (wSeq (wSet 3 (wCall W_law_votes (wCons (wVar 1) (wCons (wVar 2) wNil))))
  (wSeq (wIf (wOrB (wTest (wOp (roEq false) (wVar 0) (wC (.int 0)))) (wTest (wOp (roEq false) (wVar 0) (wC (.int 2))))) (wSeq (wRet (wVar 3))
  wNext) wNext)
  (wSeq (wRet (wSub (wIx (wVar 3) (wC (.int 0))) (wIx (wVar 3) (wC (.int 1)))))
  wNext)))
/-- _law_here -/
def p_law_here : DS :=
  (wSeq (wIf (wTest (wLt (wVar 1) (wC (.int 5)))) (wSeq (wRet (wLc 2 (wRng1 (wCons (wShl (wC (.int 1)) (wVar 1)) wNil)) wTrue (wVar 2)))
  wNext) wNext)
  (wSeq (wRet (wOp roAdd (wLst (wCons (wC (.int 0)) wNil)) (wLc 3 (wRng1 (wCons (wC (.int 5)) wNil)) wTrue (wCall W_law_word (wCons (wVar 0) (wCons (wVar 1) wNil))))))
  wNext))
/-- _law_call -/
def p_law_call : DS :=
  (wSeq (wSet 4 (wCall W_law_take (wCons (wVar 0) (wCons (wC (.int 4)) wNil))))
  (wSeq (wSet 5 (wVar 1))
  (wSeq (wSet 6 (wC (.str "")))
  (wSeq (wIf (wTest (wOp (roEq false) (wCall W_law_take (wCons (wVar 0) (wCons (wC (.int 3)) wNil))) (wC (.int 0)))) (wSeq (wSet 5 (wCall W_law_odd_table (wCons (wVar 0) wNil)))
  (wSeq (wSet 6 (wC (.str "WrongKind")))
  wNext)) wNext)
  (wSeq (wSet 7 (wCall W_law_word (wCons (wVar 0) (wCons (wVar 2) wNil))))
  (wSeq (wIf (wTest (wGt (wCall W_law_take (wCons (wVar 0) (wCons (wC (.int 4)) wNil))) (wC (.int 0)))) (wSeq (wSet 7 (wCall W_law_odd_number_iv (wCons (wVar 0) (wCons (wC (.int 0)) (wCons (wSub (wShl (wC (.int 1)) (wVar 2)) (wC (.int 1))) wNil)))))
  wNext) wNext)
  (wSeq (wSet 8 (wCall W_law_first_fault (wCons (wLst (wCons (wTup (wCons (wC (.str "table")) (wCons (wVar 6) wNil))) (wCons (wTup (wCons (wC (.str "word")) (wCons (wCall W_law_number_fault_iv (wCons (wVar 7) (wCons (wC (.int 0)) (wCons (wSub (wShl (wC (.int 1)) (wVar 2)) (wC (.int 1))) wNil)))) wNil))) wNil))) wNil)))
  (wSeq (wSet 9 (wCall W_law_told (wCons (wVar 4) (wCons (wLst (wCons (wVar 5) (wCons (wVar 7) wNil))) wNil))))
  (wSeq (wIf (wTest (wOp (roIsN true) (wVar 8) (wC .non))) (wSeq (wRet (wCall (W_law_same 6) (wCons (wVar 9) (wCons (wTup (wCons (wC (.str "refused")) (wCons (wVar 8) wNil))) wNil))))
  wNext) wNext)
  (wSeq (wRet (wCall (W_law_same 6) (wCons (wVar 9) (wCons (wTup (wCons (wC (.str "answer")) (wCons (wCall W_law_due (wCons (wVar 4) (wCons (wVar 3) (wCons (wVar 7) wNil)))) wNil))) wNil))))
  wNext))))))))))
/-- the law behind its first statement -/
def p_law : DS :=
  (wSeq (wSet 2 (wCall W_law_width (wCons (wVar 1) (wCons (wC (.int 0)) (wCons (wC (.int 6)) wNil)))))
  (wSeq (wSet 3 (wCall W_law_bits (wCons (wVar 1) (wCons (wVar 2) wNil))))
  (wSeq (wSet 4 (wCall W_law_bits (wCons (wVar 1) (wCons (wVar 2) wNil))))
  (wSeq (wSet 5 (wCall W_Table_init (wCons (wVar 2) (wCons (wList (wCons (wVar 3) wNil)) wNil))))
  (wSeq (wSet 6 (wCall W_Table_init (wCons (wVar 2) (wCons (wList (wCons (wVar 4) wNil)) wNil))))
  (wSeq (wSet 7 (wCall W_law_here (wCons (wVar 1) (wCons (wVar 2) wNil))))
  (wSeq (wFor (wItemsL (wVar 7)) (dgName 8) (wSeq (wSet 9 (wCall W_law_take (wCons (wVar 1) (wCons (wC (.int 2)) wNil))))
  (wSeq (wIf (wOrB (wNotB (wTest (wCall (W_law_same 6) (wCons (wCall W_votes_at (wCons (wVar 5) (wCons (wVar 8) wNil))) (wCons (wCall W_law_votes (wCons (wVar 3) (wCons (wVar 8) wNil))) wNil))))) (wNotB (wTest (wCall (W_law_same 6) (wCons (wCall W_margin (wCons (wVar 5) (wCons (wVar 8) wNil))) (wCons (wCall W_law_due (wCons (wC (.int 1)) (wCons (wVar 3) (wCons (wVar 8) wNil)))) wNil)))))) (wSeq (wRet (wC (.bl false)))
  wNext) wNext)
  (wSeq (wIf (wNotB (wTest (wCall (W_law_same 6) (wCons (wCall W_law_ask (wCons (wVar 9) (wCons (wLst (wCons (wVar 6) (wCons (wVar 8) wNil))) wNil))) (wCons (wCall W_law_due (wCons (wVar 9) (wCons (wVar 4) (wCons (wVar 8) wNil)))) wNil))))) (wSeq (wRet (wC (.bl false)))
  wNext) wNext)
  wNext))))
  (wSeq (wIf (wNotB (wTest (wCall (W_law_same 6) (wCons (wLst (wCons (wCall W_votes_at (wCons (wVar 5) (wCons (wC (.int 0)) wNil))) (wCons (wCall W_margin (wCons (wVar 6) (wCons (wC (.int 0)) wNil))) wNil))) (wCons (wLst (wCons (wTup (wCons (wShl (wC (.int 1)) (wVar 2)) (wCons (wC (.int 0)) wNil))) (wCons (wShl (wC (.int 1)) (wVar 2)) wNil))) wNil))))) (wSeq (wRet (wC (.bl false)))
  wNext) wNext)
  (wSeq (wFor (wRng1 (wCons (wC (.int 5)) wNil)) (dgName 10) (wSeq (wIf (wNotB (wTest (wCall W_law_call (wCons (wVar 1) (wCons (wVar 5) (wCons (wVar 2) (wCons (wVar 3) wNil))))))) (wSeq (wRet (wC (.bl false)))
  wNext) wNext)
  wNext))
  (wSeq (wSet 11 (wCall W_law_pick (wCons (wVar 1) (wCons (wVar 7) wNil))))
  (wSeq (wIf (wNotB (wTest (wCall (W_law_same 6) (wCons (wCall (fun ds Q E => W_votes_at (permL [1, 0] ds) Q E) (wCons (wVar 11) (wCons (wVar 5) wNil))) (wCons (wCall W_law_votes (wCons (wVar 3) (wCons (wVar 11) wNil))) wNil))))) (wSeq (wRet (wC (.bl false)))
  wNext) wNext)
  (wSeq (wIf (wNotB (wTest (wCall (W_law_same 6) (wCons (wCall (fun ds Q E => W_margin (permL [1, 0] ds) Q E) (wCons (wVar 11) (wCons (wVar 5) wNil))) (wCons (wCall W_law_due (wCons (wC (.int 1)) (wCons (wVar 3) (wCons (wVar 11) wNil)))) wNil))))) (wSeq (wRet (wC (.bl false)))
  wNext) wNext)
  (wSeq (wRet (wAndV (wCall W_law_is_table (wCons (wVar 5) (wCons (wVar 2) (wCons (wVar 3) wNil)))) (wCall W_law_is_table (wCons (wVar 6) (wCons (wVar 2) (wCons (wVar 4) wNil))))))
  wNext)))))))))))))
end C
set_option Elab.async false
set_option maxRecDepth 100000
set_option maxHeartbeats 1000000
set_option linter.unusedVariables false
namespace C
open PySem PySem.Spec PyProof.Rows L2 NdefX DL
theorem dat_sh (d : D) : (Sl.sh d).dat = d := rfl
theorem dat_ow (p : Addr) (ds : List D) : (Sl.ow p ds).dat = .lst ds := rfl
theorem dat_dp (F : List Addr) (d : D) : (Sl.dp F d).dat = d := rfl
theorem roEq_int {neg : Bool} {i j : Int} {Q : Sl → Prop} : roEq neg (.int i) (.int j) Q = Q (.sh (.bl (xor neg (decide (i = j))))) := by
  have e : PyData.eqv (.int i) (.int j) = decide (i = j) := by
    show (i == j) = _
    by_cases hij : i = j
    · subst hij; simp
    · rw [decide_eq_false hij]; simpa using hij
  unfold roEq
  refine propext ⟨fun ⟨p, q, h1, h2, _, _, h⟩ => ?_, fun h => ⟨.int i, .int j, rfl, rfl, rfl, rfl, ?_⟩⟩
  · simp only [toPy, Option.some.injEq] at h1 h2
    subst h1 h2
    rw [e] at h; exact h
  · rw [e]; exact h
theorem roEq_str {neg : Bool} {x y : Str} {Q : Sl → Prop} (h1 : PyData.canLay0 (.str x) = true) (h2 : PyData.canLay0 (.str y) = true) (h : Q (.sh (.bl (xor neg (decide (x = y)))))) : roEq neg (.str x) (.str y) Q := by
  refine ⟨.str x, .str y, rfl, rfl, ?_, ?_, ?_⟩
  · unfold SeqAt.shaped; rw [h1]; rfl
  · unfold SeqAt.shaped; rw [h2]; rfl
  · have e : PyData.eqv (.str x) (.str y) = decide (x = y) := by
      show (x == y) = _
      by_cases hxy : x = y
      · subst hxy; simp
      · rw [decide_eq_false hxy]; simpa using hxy
    rw [e]; exact h
local macro_rules | `(tactic| walk_at "dl") => `(tactic| simp only [wSeq, wIf, wNext, wRet, wRetN, wDrop, wSet, wTest, wAndB, wOrB, wNotB, wIsi, wVar, wC, wOp, wRaise, wCall, wCons, wNil, wFun, wPar, wTup, wNeg, wUn, wIfE, wAndV, wOrV, wNotV, wUnp2, wLst, wIxO, wLenO, wSetIx, wAppend, wDic0, wFor, wItemsL, wItemsS, wRng1, wRng2, wListRev, dgName, roAdd, roI, roI0, roB, roIx, roIsN, roF, roL, datas, List.map_cons, List.map_nil, entry, List.length_cons, List.length_nil, List.cons_append, List.nil_append, List.replicate, List.replicate_succ, List.replicate_zero, Nat.reduceAdd, Nat.reduceSub, Nat.zero_add,
  List.getElem?_cons_zero, List.getElem?_cons_succ, List.set_cons_zero, List.set_cons_succ, dat_sh, dat_ow, dat_dp, DL.isInt, DL.isBool, DL.isStr, DL.isLst, DL.isTup, PinD, Bool.not_true, Bool.not_false, Bool.false_eq_true, if_true, if_false, true_and, and_true, OkAD, bodyEnds, pInt1, pInt2, fAbs, fMin, fMax, pIntOf, fIntOf, pLen, fLen, pSeq, fSeq, reduceIte, decide_eq_true_eq, ite_true, ite_false, Bool.and_eq_true, Bool.not_eq_true', roEq_int, Bool.true_xor, Bool.false_xor])
/-! ### by functions -/
theorem WF_get {f : List D → Option (Except Er D)} {ds : List D} {Q : Sl → Prop} {E : Er → Prop} (h : WF f ds Q E) : (∃ d, f ds = some (.ok d) ∧ Q (.sh d)) ∨ ∃ e, f ds = some (.error e) ∧ E e := by
  unfold WF at h
  split at h
  · exact .inl ⟨_, by assumption, h⟩
  · exact .inr ⟨_, by assumption, h⟩
  · exact h.elim
theorem WF_ok {f : List D → Option (Except Er D)} {ds : List D} {Q : Sl → Prop} {E : Er → Prop} {d : D} (e : f ds = some (.ok d)) (h : Q (.sh d)) : WF f ds Q E := by unfold WF; rw [e]; exact h
theorem WF_err {f : List D → Option (Except Er D)} {ds : List D} {Q : Sl → Prop} {E : Er → Prop} {x : Er} (e : f ds = some (.error x)) (h : E x) : WF f ds Q E := by unfold WF; rw [e]; exact h
theorem mono_check_integer : MonoW W_check_integer := WF_mono
theorem mono_check_between : MonoW W_check_between := WF_mono
theorem mono_check_fraction : MonoW W_check_fraction := WF_mono
theorem len_of {f : List D → Option (Except Er D)} {n : Nat} (k : ∀ ds r, f ds = some r → ds.length = n) : ∀ ds Q E, WF f ds Q E → ds.length = n := fun ds Q E h => by
  rcases WF_get h with ⟨d, e, _⟩ | ⟨d, e, _⟩ <;> exact k _ _ e
theorem len_check_integer : ∀ ds Q E, W_check_integer ds Q E → ds.length = 2 := len_of fun ds r h => by
  unfold f_check_integer at h
  split at h
  · rfl
  · cases h
theorem len_check_between : ∀ ds Q E, W_check_between ds Q E → ds.length = 4 := len_of fun ds r h => by
  unfold f_check_between at h
  split at h
  · rfl
  · cases h
theorem len_check_fraction : ∀ ds Q E, W_check_fraction ds Q E → ds.length = 2 := len_of fun ds r h => by
  unfold f_check_fraction at h
  split at h
  · rfl
  · cases h
/-- the form of a call of check_integer -/
theorem chk_int {d : D} {z : Str} {Q : Sl → Prop} {E : Er → Prop} (hz : z.length ≤ 1000) (h1 : isI d = some true → Q (.sh .non)) (h2 : isI d = some false → E (Er1 "WrongKind" z)) (h : (isI d).isSome = true) : W_check_integer [d, .str z] Q E := by
  unfold W_check_integer
  cases hd : isI d with
  | none => rw [hd] at h; cases h
  | some b => cases b with
    | true => exact WF_ok (d := .non) (by unfold f_check_integer; simp only []; rw [if_pos hz, hd]; rfl) (h1 hd)
    | false => exact WF_err (x := Er1 "WrongKind" z) (by unfold f_check_integer; simp only []; rw [if_pos hz, hd]; rfl) (h2 hd)
theorem sat_check_integer : ∀ ds Q E', W_check_integer ds Q E' → p_check_integer (bodyEnds Q) (entry 2 ds) (fun e _ => E' e) := by
  intro ds Q E' h
  unfold W_check_integer WF f_check_integer at h
  split at h <;> try exact h.elim
  all_goals
    rename_i x eq
    split at eq <;> try cases eq
    split at eq <;> try cases eq
    rename_i d z hz
    have hz2 : z.length ≤ 100000 := by omega
    unfold p_check_integer
    cases d <;> simp only [isI, Option.map_some, Option.map_none, Option.some.injEq, if_true, Bool.false_eq_true, if_false, reduceCtorEq] at eq <;> cases eq <;> walk_at "dl" <;> first
      | exact bodyR h
      | exact ⟨hz2, h⟩
theorem sat_check_between : ∀ ds Q E', W_check_between ds Q E' → p_check_between (bodyEnds Q) (entry 4 ds) (fun e _ => E' e) := by
  intro ds Q E' h
  rcases WF_get h with ⟨r, e, hq⟩ | ⟨r, e, hq⟩
  · unfold f_check_between at e
    split at e
    · rename_i d lo hi z
      split at e
      · rename_i hz
        split at e
        · rename_i i
          unfold p_check_between
          try walk_at "dl"
          refine chk_int hz (fun _ => ?_) (fun z => by cases z) rfl
          try walk_at "dl"
          cases hb : betw i lo hi with
          | false => rw [hb] at e; cases e
          | true =>
            rw [hb] at e
            cases e
            unfold betw at hb
            simp only [Bool.and_eq_true, decide_eq_true_eq] at hb
            rw [if_neg (by omega), if_neg (by omega)]
            exact bodyR hq
        · rw [Option.map_eq_some_iff] at e; obtain ⟨_, _, e⟩ := e; cases e
      · cases e
    · cases e
  · unfold f_check_between at e
    split at e
    · rename_i d lo hi z
      split at e
      · rename_i hz
        have hz2 : z.length ≤ 100000 := by omega
        split at e
        · rename_i i
          unfold p_check_between
          try walk_at "dl"
          refine chk_int hz (fun _ => ?_) (fun z => by cases z) rfl
          try walk_at "dl"
          cases hb : betw i lo hi with
          | true => rw [hb] at e; cases e
          | false =>
            rw [hb] at e
            cases e
            unfold betw at hb
            simp only [Bool.and_eq_false_iff, decide_eq_false_iff_not] at hb
            by_cases h1 : i < lo
            · rw [if_pos h1]; exact ⟨hz2, hq⟩
            · rw [if_neg h1, if_pos (by omega)]; exact ⟨hz2, hq⟩
        · rename_i d0 hd
          rw [Option.map_eq_some_iff] at e
          obtain ⟨b, e1, e2⟩ := e
          cases e2
          unfold p_check_between
          try walk_at "dl"
          refine chk_int hz (fun h => ?_) (fun _ => hq) (by rw [e1]; rfl)
          cases d <;> first
            | (simp only [isI, Option.some.injEq, Bool.false_eq_true, reduceCtorEq] at h; done)
            | exact (hd _ rfl).elim
      · cases e
    · cases e
end C
set_option Elab.async false
set_option maxRecDepth 100000
set_option maxHeartbeats 1000000
set_option linter.unusedVariables false
namespace C
open PySem PySem.Spec PyProof.Rows L2 NdefX DL
local macro_rules | `(tactic| walk_at "dl") => `(tactic| simp only [wSeq, wIf, wNext, wRet, wRetN, wDrop, wSet, wTest, wAndB, wOrB, wNotB, wIsi, wVar, wC, wOp, wRaise, wCall, wCons, wNil, wFun, wPar, wTup, wNeg, wUn, wIfE, wAndV, wOrV, wNotV, wUnp2, wLst, wIxO, wLenO, wSetIx, wAppend, wDic0, wFor, wItemsL, wItemsS, wRng1, wRng2, wListRev, dgName, roAdd, roI, roI0, roB, roIx, roIsN, roF, roL, datas, List.map_cons, List.map_nil, entry, List.length_cons, List.length_nil, List.cons_append, List.nil_append, List.replicate, List.replicate_succ, List.replicate_zero, Nat.reduceAdd, Nat.reduceSub, Nat.zero_add,
  List.getElem?_cons_zero, List.getElem?_cons_succ, List.set_cons_zero, List.set_cons_succ, dat_sh, dat_ow, dat_dp, DL.isInt, DL.isBool, DL.isStr, DL.isLst, DL.isTup, PinD, Bool.not_true, Bool.not_false, Bool.false_eq_true, if_true, if_false, true_and, and_true, OkAD, bodyEnds, pInt1, pInt2, fAbs, fMin, fMax, pIntOf, fIntOf, pLen, fLen, pSeq, fSeq, reduceIte, decide_eq_true_eq, ite_true, ite_false, Bool.and_eq_true, Bool.not_eq_true', roEq_int, Bool.true_xor, Bool.false_xor])
theorem str_ok {z : Str} (h : z.length ≤ 1000) : z.length ≤ 100000 := by omega
theorem atD_0 {a : D} {l : List D} : atD (a :: l) 0 = some a := by
  unfold atD atI ixN
  simp
theorem atD_1 {a b : D} {l : List D} : atD (a :: b :: l) 1 = some b := by
  unfold atD atI ixN
  rw [if_pos (by decide), if_pos (by simp only [List.length_cons]; omega)]
  rfl
theorem at0 {a : D} {l : List D} {P : D → Prop} : (∃ x, atD (a :: l) 0 = some x ∧ P x) = P a := propext ⟨fun ⟨x, e, h⟩ => by rw [atD_0] at e; cases e; exact h, fun h => ⟨a, atD_0, h⟩⟩
theorem at1 {a b : D} {l : List D} {P : D → Prop} : (∃ x, atD (a :: b :: l) 1 = some x ∧ P x) = P b := propext ⟨fun ⟨x, e, h⟩ => by rw [atD_1] at e; cases e; exact h, fun h => ⟨b, atD_1, h⟩⟩
/-- the ways of check_fraction -/
theorem frF_tup {a b : D} {o : Option Str} (h : frF (.tup [a, b]) = some o) : (isI a).isSome = true ∧ (isI b).isSome = true ∧ ((∃ i j, a = .int i ∧ b = .int j ∧ 1 ≤ j ∧ o = none) ∨ (∃ i j, a = .int i ∧ b = .int j ∧ ¬ 1 ≤ j ∧ o = some "OutOfRange") ∨ (isI a = some false ∧ o = some "WrongKind") ∨ (isI a = some true ∧ isI b = some false ∧ o = some "WrongKind")) := by
  have ia : ∀ d, isI d = some true → ∃ i, d = .int i := fun d hd => by cases d <;> first | exact ⟨_, rfl⟩ | cases hd
  cases ha : isI a with
  | none => simp [frF, ha] at h
  | some x => cases hb : isI b with
    | none => simp [frF, ha, hb] at h
    | some y =>
      refine ⟨rfl, rfl, ?_⟩
      cases x with
      | false => cases y <;> (simp only [frF, ha, hb, Option.some.injEq] at h; exact .inr (.inr (.inl ⟨rfl, h.symm⟩)))
      | true => cases y with
        | false => simp only [frF, ha, hb, Option.some.injEq] at h; exact .inr (.inr (.inr ⟨rfl, rfl, h.symm⟩))
        | true =>
          obtain ⟨i, rfl⟩ := ia _ ha
          obtain ⟨j, rfl⟩ := ia _ hb
          simp only [frF, isI, Option.some.injEq] at h
          by_cases hj : 1 ≤ j
          · rw [if_pos hj] at h; exact .inl ⟨i, j, rfl, rfl, hj, h.symm⟩
          · rw [if_neg hj] at h; exact .inr (.inl ⟨i, j, rfl, rfl, hj, h.symm⟩)
theorem sat_check_fraction : ∀ ds Q E', W_check_fraction ds Q E' → p_check_fraction (bodyEnds Q) (entry 2 ds) (fun e _ => E' e) := by
  intro ds Q E' h
  have key : ∃ d z o, ds = [d, .str z] ∧ z.length ≤ 1000 ∧ frF d = some o ∧ (o = none → Q (.sh .non)) ∧ (∀ c, o = some c → E' (Er1 c z)) := by
    rcases WF_get h with ⟨r, e, hq⟩ | ⟨r, e, hq⟩ <;>
    · unfold f_check_fraction at e
      split at e
      · rename_i d z
        split at e
        · rename_i hz
          rw [Option.map_eq_some_iff] at e
          obtain ⟨o, e1, e2⟩ := e
          refine ⟨d, z, o, rfl, hz, e1, fun ho => ?_, fun c ho => ?_⟩ <;> subst ho <;> cases e2 <;> exact hq
        · cases e
      · cases e
  obtain ⟨d, z, o, rfl, hz, hf, h1, h2⟩ := key
  have hz2 := str_ok hz
  unfold p_check_fraction
  have notup : (∀ l, d ≠ .tup l) → p_check_fraction (bodyEnds Q) (entry 2 [d, .str z]) (fun e _ => E' e) := fun hn => by
    unfold p_check_fraction
    cases d <;> first
      | exact absurd rfl (hn _)
      | (simp only [frF, isI, Option.map_some, Option.map_none, Option.some.injEq, reduceCtorEq] at hf; done)
      | (simp only [frF, isI, Option.map_some, Option.map_none, Option.some.injEq, reduceCtorEq] at hf; walk_at "dl"; exact ⟨hz2, h2 _ hf.symm⟩)
  cases d with
  | tup l =>
    match l with
    | [] =>
      simp only [frF, Option.some.injEq] at hf
      walk_at "dl"
      exact ⟨hz2, h2 _ hf.symm⟩
    | [a] =>
      simp only [frF, Option.some.injEq] at hf
      walk_at "dl"
      exact ⟨hz2, h2 _ hf.symm⟩
    | a :: b :: c :: r =>
      simp only [frF, Option.some.injEq] at hf
      walk_at "dl"
      have : ¬ (((r.length + 1 + 1 + 1 : Nat) : Int) = 2) := by omega
      simp only [this, decide_false, Bool.not_false, if_true]
      exact ⟨hz2, h2 _ hf.symm⟩
    | [a, b] =>
      obtain ⟨sa, sb, hh⟩ := frF_tup hf
      walk_at "dl"
      simp only [Int.cast_ofNat_Int, decide_true, Bool.not_true, Bool.false_eq_true, if_false, at0, at1]
      rcases hh with ⟨i, j, rfl, rfl, hj, ho⟩ | ⟨i, j, rfl, rfl, hj, ho⟩ | ⟨h3, ho⟩ | ⟨h3, h4, ho⟩
      · refine chk_int hz (fun _ => ?_) (fun z => by cases z) rfl
        refine chk_int hz (fun _ => ?_) (fun z => by cases z) rfl
        show if j < 1 then _ else _
        rw [if_neg (by omega)]
        exact bodyR (h1 ho)
      · refine chk_int hz (fun _ => ?_) (fun z => by cases z) rfl
        refine chk_int hz (fun _ => ?_) (fun z => by cases z) rfl
        show if j < 1 then _ else _
        rw [if_pos (by omega)]
        exact ⟨hz2, h2 _ ho⟩
      · exact chk_int hz (fun h => by rw [h3] at h; cases h) (fun _ => h2 _ ho) sa
      · refine chk_int hz (fun _ => ?_) (fun h => by rw [h3] at h; cases h) sa
        exact chk_int hz (fun h => by rw [h4] at h; cases h) (fun _ => h2 _ ho) sb
  | _ => exact notup fun l z => by cases z
/-! ### gcd, fractions in lowest terms -/
theorem bd_log {n : Nat} {i : Int} (h0 : 0 < n) (h : Bd n i) : i.natAbs.log2 < n := PySem.Flt.log2_lt_of h0 h
theorem bd_mono {n m : Nat} {i : Int} (h : Bd n i) (hm : n ≤ m) : Bd m i := Nat.lt_of_lt_of_le h (Nat.pow_le_pow_right (by decide) hm)
theorem cmul_of {n m : Nat} {i j : Int} (h1 : Bd n i) (h2 : Bd m j) (hn : 0 < n) (hm : 0 < m) (h : n + m ≤ 1000000) : CMulA i j := .inr (wide_mul h1 h2 hn hm h)
theorem bd_mul {n m : Nat} {i j : Int} (h1 : Bd n i) (h2 : Bd m j) : Bd (n + m) (i * j) := wide_lt h1 h2
theorem bd_add {n : Nat} {i j : Int} (h1 : Bd n i) (h2 : Bd n j) : Bd (n + 1) (i + j) := by
  unfold Bd at *
  have : 2 ^ (n + 1) = 2 ^ n + 2 ^ n := by rw [Nat.pow_succ]; omega
  omega
theorem bd_le {n : Nat} {i j : Int} (h : Bd n j) (hij : i.natAbs ≤ j.natAbs) : Bd n i := Nat.lt_of_le_of_lt hij h
theorem gcd_abs (a b : Int) : Int.gcd a b = Nat.gcd a.natAbs b.natAbs := rfl
theorem sat_common_divisor : ∀ ds Q E', W_common_divisor ds Q E' → p_common_divisor (bodyEnds Q) (entry 4 ds) (fun e _ => E' e) := by
  rintro ds Q E' ⟨⟨a, b, rfl⟩, h, _⟩
  have hq := h _ ⟨a, b, rfl, rfl⟩
  unfold p_common_divisor
  walk_at "dl"
  unfold wWhile
  refine ⟨fun ρ n => ∃ x y : Nat, ρ = [.sh (.int a), .sh (.int b), .sh (.int x), .sh (.int y)] ∧ Nat.gcd x y = Int.gcd a b ∧ n = y, ⟨b.natAbs, a.natAbs, b.natAbs, rfl, rfl, rfl⟩, ?_⟩
  rintro ρ n ⟨x, y, rfl, hg, rfl⟩
  walk_at "dl"
  by_cases hy : (0 : Int) < (n : Int)
  · rw [if_pos hy]
    refine ⟨by omega, ?_⟩
    have e : (x : Int).fmod (n : Int) = ((x % n : Nat) : Int) := by rw [Int.fmod_eq_emod_of_nonneg _ (by omega)]; rfl
    rw [e]
    refine ⟨x % n, Nat.mod_lt _ (by omega), n, x % n, rfl, ?_, rfl⟩
    rw [← hg, Nat.gcd_comm x n, Nat.gcd_rec n x, Nat.gcd_comm]
  · rw [if_neg hy]
    have hn : n = 0 := by omega
    subst hn
    rw [Nat.gcd_zero_right] at hg
    rw [hg]
    exact bodyR hq
end C
set_option Elab.async false
set_option maxRecDepth 100000
set_option maxHeartbeats 1000000
set_option linter.unusedVariables false
/-! fractions: plain mathematics -/
namespace C
theorem low_num (a b : Int) (hb : b ≠ 0) : (if b < 0 then -a else a).fdiv (Int.gcd a b) = (Rat.divInt a b).num := by
  rw [Rat.num_divInt, Int.gcd_comm b a, Int.fdiv_eq_ediv_of_nonneg _ (by omega)]
  by_cases h : b < 0
  · rw [if_pos h, Int.sign_eq_neg_one_of_neg h, Int.neg_one_mul]
  · rw [if_neg h, Int.sign_eq_one_of_pos (by omega), Int.one_mul]
theorem low_den (a b : Int) (hb : b ≠ 0) : (if b < 0 then -b else b).fdiv (Int.gcd a b) = ((Rat.divInt a b).den : Int) := by
  rw [Rat.den_divInt, if_neg hb, Int.gcd_comm b a, Int.fdiv_eq_ediv_of_nonneg _ (by omega), Int.natCast_ediv]
  congr 1
  by_cases h : b < 0
  · rw [if_pos h]; omega
  · rw [if_neg h]; omega
theorem mul_num (r s : Rat) : (r * s).num = r.num.fdiv (Nat.gcd r.num.natAbs s.den) * s.num.fdiv (Nat.gcd s.num.natAbs r.den) := by
  show (Rat.mul r s).num = _
  delta Rat.mul
  dsimp only
  rw [Int.divExact_eq_tdiv, Int.divExact_eq_tdiv, Int.tdiv_eq_ediv_of_dvd (Int.ofNat_dvd_left.2 (Nat.gcd_dvd_left ..)), Int.tdiv_eq_ediv_of_dvd (Int.ofNat_dvd_left.2 (Nat.gcd_dvd_left ..)), Int.fdiv_eq_ediv_of_nonneg _ (by omega), Int.fdiv_eq_ediv_of_nonneg _ (by omega)]
theorem mul_den (r s : Rat) : ((r * s).den : Int) = (r.den : Int).fdiv (Nat.gcd s.num.natAbs r.den) * (s.den : Int).fdiv (Nat.gcd r.num.natAbs s.den) := by
  have e : (r * s).den = r.den / (Nat.gcd s.num.natAbs r.den) * (s.den / (Nat.gcd r.num.natAbs s.den)) := by
    show (Rat.mul r s).den = _
    delta Rat.mul
    dsimp only
    rw [Nat.divExact_eq_div, Nat.divExact_eq_div]
  rw [e, Int.natCast_mul, Int.natCast_ediv, Int.natCast_ediv, Int.fdiv_eq_ediv_of_nonneg _ (by omega), Int.fdiv_eq_ediv_of_nonneg _ (by omega)]
/-- the numerator over the common part -/
def bothN (r s : Rat) : Int := r.num * ((s.den / r.den.gcd s.den : Nat) : Int) + s.num * ((r.den / r.den.gcd s.den : Nat) : Int)
theorem add_eq (r s : Rat) : r + s = mkRat (bothN r s) (r.den / r.den.gcd s.den * s.den) := by
  have h : r.den.gcd s.den ≠ 0 := Nat.gcd_ne_zero_left r.den_nz
  rw [Rat.add_def', ← Rat.mkRat_mul_right (n := bothN r s) h]
  congr 1
  · unfold bothN
    rw [Int.add_mul, Int.mul_assoc, Int.mul_assoc, ← Int.natCast_mul, ← Int.natCast_mul, Nat.div_mul_cancel (Nat.gcd_dvd_left ..), Nat.div_mul_cancel (Nat.gcd_dvd_right ..)]
  · rw [Nat.mul_right_comm, Nat.div_mul_cancel (Nat.gcd_dvd_left ..)]
theorem add_gcd (r s : Rat) : (r.den / r.den.gcd s.den * s.den).gcd (bothN r s).natAbs = (bothN r s).natAbs.gcd (r.den.gcd s.den) := by
  rw [Nat.gcd_comm]
  exact (Rat.add.aux r s rfl rfl rfl).symm
theorem add_num (r s : Rat) : (r + s).num = (bothN r s).fdiv (Nat.gcd (bothN r s).natAbs (r.den.gcd s.den)) := by
  have h : r.den / r.den.gcd s.den * s.den ≠ 0 := Nat.ne_of_gt (Nat.mul_pos (Nat.div_gcd_pos_of_pos_left _ r.den_pos) s.den_pos)
  rw [add_eq, Rat.num_mkRat, if_neg h, add_gcd, Int.fdiv_eq_ediv_of_nonneg _ (by omega)]
theorem add_den (r s : Rat) : ((r + s).den : Int) = ((r.den / r.den.gcd s.den : Nat) : Int) * (s.den : Int).fdiv (Nat.gcd (bothN r s).natAbs (r.den.gcd s.den)) := by
  have h : r.den / r.den.gcd s.den * s.den ≠ 0 := Nat.ne_of_gt (Nat.mul_pos (Nat.div_gcd_pos_of_pos_left _ r.den_pos) s.den_pos)
  rw [add_eq, Rat.den_mkRat, if_neg h, add_gcd, Int.fdiv_eq_ediv_of_nonneg _ (by omega), ← Int.natCast_ediv, ← Int.natCast_mul]
  congr 1
  exact Nat.mul_div_assoc _ (Nat.dvd_trans (Nat.gcd_dvd_right ..) (Nat.gcd_dvd_right ..))
theorem ratio_cross (n m : Int) (hm : m ≠ 0) : (Rat.divInt n m).num * m = n * (Rat.divInt n m).den := by
  have h := (Rat.divInt_eq_divInt_iff (n₁ := n) (n₂ := (Rat.divInt n m).num) hm (show ((Rat.divInt n m).den : Int) ≠ 0 by have := (Rat.divInt n m).den_nz; omega)).mp (Rat.num_divInt_den _).symm
  exact h.symm
end C
set_option Elab.async false
set_option maxRecDepth 100000
set_option maxHeartbeats 1000000
set_option linter.unusedVariables false
namespace C
open PySem PySem.Spec PyProof.Rows L2 NdefX DL
local macro_rules | `(tactic| walk_at "dl") => `(tactic| simp only [wSeq, wIf, wNext, wRet, wRetN, wDrop, wSet, wTest, wAndB, wOrB, wNotB, wIsi, wVar, wC, wOp, wRaise, wCall, wCons, wNil, wFun, wPar, wTup, wNeg, wUn, wIfE, wAndV, wOrV, wNotV, wUnp2, wLst, wIxO, wLenO, wSetIx, wAppend, wDic0, wFor, wItemsL, wItemsS, wRng1, wRng2, wListRev, dgName, roAdd, roI, roI0, roB, roIx, roIsN, roF, roL, datas, List.map_cons, List.map_nil, entry, List.length_cons, List.length_nil, List.cons_append, List.nil_append, List.replicate, List.replicate_succ, List.replicate_zero, Nat.reduceAdd, Nat.reduceSub, Nat.zero_add,
  List.getElem?_cons_zero, List.getElem?_cons_succ, List.set_cons_zero, List.set_cons_succ, dat_sh, dat_ow, dat_dp, DL.isInt, DL.isBool, DL.isStr, DL.isLst, DL.isTup, PinD, Bool.not_true, Bool.not_false, Bool.false_eq_true, if_true, if_false, true_and, and_true, OkAD, bodyEnds, pInt1, pInt2, fAbs, fMin, fMax, pIntOf, fIntOf, pLen, fLen, pSeq, fSeq, reduceIte, decide_eq_true_eq, ite_true, ite_false, Bool.and_eq_true, Bool.not_eq_true', roEq_int, Bool.true_xor, Bool.false_xor])
theorem gcd_pos {a b : Int} (hb : b ≠ 0) : (Int.gcd a b : Int) ≠ 0 := by
  have : Int.gcd a b ≠ 0 := fun z => hb (Int.gcd_eq_zero_iff.mp z).2
  omega
theorem gcd_bd {n : Nat} {a b : Int} (hb : b ≠ 0) (h : Bd n b) : Bd n (Int.gcd a b : Int) := by
  have h1 : Int.gcd a b ≤ b.natAbs := Nat.le_of_dvd (Int.natAbs_pos.mpr hb) (Nat.gcd_dvd_right ..)
  unfold Bd at *
  omega
theorem cdiv_of {i j : Int} (h0 : j ≠ 0) (h : Bd 9000 j) : CDivA i j := ⟨h0, bd_log (by decide) h⟩
/-- a call of common_divisor -/
theorem call_gcd {a b : Int} {Q : Sl → Prop} {E : Er → Prop} (h : Q (.sh (.int (Int.gcd a b)))) : W_common_divisor [.int a, .int b] Q E :=
  ⟨⟨a, b, rfl⟩, fun z ⟨a', b', e, ez⟩ => by cases e; rw [ez]; exact h, fun _ z => z.elim⟩
theorem sat_lowest : ∀ ds Q E', W_lowest ds Q E' → p_lowest (bodyEnds Q) (entry 3 ds) (fun e _ => E' e) := by
  rintro ds Q E' ⟨⟨a, b, rfl, hb, hB⟩, h, _⟩
  have hq := h _ ⟨a, b, rfl, rfl⟩
  have g1 : (Int.gcd a b : Int) ≠ 0 := gcd_pos hb
  have g2 : Bd 9000 (Int.gcd a b : Int) := bd_mono (gcd_bd hb hB) (by decide)
  have e1 := low_num a b hb
  have e2 := low_den a b hb
  unfold p_lowest
  walk_at "dl"
  by_cases h0 : b < 0
  · rw [if_pos h0] at e1 e2 ⊢
    refine call_gcd ?_
    have eg : Int.gcd (-a) (-b) = Int.gcd a b := by rw [Int.gcd_neg, Int.neg_gcd]
    rw [eg]
    refine ⟨cdiv_of g1 g2, cdiv_of g1 g2, bodyR ?_⟩
    rw [e1, e2]
    exact hq
  · rw [if_neg h0] at e1 e2 ⊢
    refine call_gcd ⟨cdiv_of g1 g2, cdiv_of g1 g2, bodyR ?_⟩
    rw [e1, e2]
    exact hq
theorem rb_num {n : Nat} {r : Rat} (h : RB n r) : Bd n r.num := h.1
theorem rb_den {n : Nat} {r : Rat} (h : RB n r) : Bd n (r.den : Int) := by have := h.2; unfold Bd; omega
theorem den_ne (r : Rat) : (r.den : Int) ≠ 0 := by have := r.den_nz; omega
theorem bd_nat {n a : Nat} (h : a < 2 ^ n) : Bd n (a : Int) := by unfold Bd; omega
theorem sat_times : ∀ ds Q E', W_times ds Q E' → p_times (bodyEnds Q) (entry 8 ds) (fun e _ => E' e) := by
  rintro ds Q E' ⟨⟨r, s, rfl, hr, hs⟩, h, _⟩
  have hq := h _ ⟨r, s, rfl, rfl⟩
  unfold p_times
  walk_at "dl"
  simp only [ratD]
  refine call_gcd (call_gcd ?_)
  have g1 : (Int.gcd r.num s.den : Int) ≠ 0 := gcd_pos (den_ne s)
  have g2 : (Int.gcd s.num r.den : Int) ≠ 0 := gcd_pos (den_ne r)
  have b1 : Bd 9000 (Int.gcd r.num s.den : Int) := bd_mono (gcd_bd (den_ne s) (rb_den hs)) (by decide)
  have b2 : Bd 9000 (Int.gcd s.num r.den : Int) := bd_mono (gcd_bd (den_ne r) (rb_den hr)) (by decide)
  have le : ∀ (x : Int) (g : Nat), (g : Int) ≠ 0 → ∀ n, Bd n x → Bd n (x.fdiv g) := fun x g hg n hx => by
    rw [Int.fdiv_eq_ediv_of_nonneg _ (by omega)]
    refine bd_le hx ?_
    exact Int.natAbs_ediv_le_natAbs _ _
  refine ⟨cdiv_of g1 b1, cdiv_of g2 b2, cmul_of (le _ _ g1 _ hr.1) (le _ _ g2 _ hs.1) (by decide) (by decide) (by decide), cdiv_of g2 b2, cdiv_of g1 b1, cmul_of (le _ _ g2 _ (rb_den hr)) (le _ _ g1 _ (rb_den hs)) (by decide) (by decide) (by decide), bodyR ?_⟩
  have e1 := mul_num r s
  have e2 := mul_den r s
  have e3 : ratD (r * s) = .tup [.int (r * s).num, .int (r * s).den] := rfl
  rw [e3, e1, e2] at hq
  exact hq
theorem sat_plus : ∀ ds Q E', W_plus ds Q E' → p_plus (bodyEnds Q) (entry 9 ds) (fun e _ => E' e) := by
  rintro ds Q E' ⟨⟨r, s, rfl, hr, hs⟩, h, _⟩
  have hq := h _ ⟨r, s, rfl, rfl⟩
  unfold p_plus
  walk_at "dl"
  simp only [ratD]
  refine call_gcd ?_
  have eg : Int.gcd (r.den : Int) (s.den : Int) = r.den.gcd s.den := rfl
  rw [eg]
  have g0 : r.den.gcd s.den ≠ 0 := Nat.gcd_ne_zero_left r.den_nz
  have g1 : ((r.den.gcd s.den : Nat) : Int) ≠ 0 := by omega
  have b1 : Bd 8999 ((r.den.gcd s.den : Nat) : Int) := bd_nat (Nat.lt_of_le_of_lt (Nat.le_of_dvd (Nat.pos_of_ne_zero r.den_nz) (Nat.gcd_dvd_left ..)) hr.2)
  have f1 : ∀ a g : Nat, (a : Int).fdiv (g : Int) = ((a / g : Nat) : Int) := fun a g => by rw [Int.fdiv_eq_ediv_of_nonneg _ (by omega), ← Int.natCast_ediv]
  have ds : Bd 8999 ((s.den : Int).fdiv (r.den.gcd s.den : Nat)) := by rw [f1]; exact bd_nat (Nat.lt_of_le_of_lt (Nat.div_le_self _ _) hs.2)
  have dr : Bd 8999 ((r.den : Int).fdiv (r.den.gcd s.den : Nat)) := by rw [f1]; exact bd_nat (Nat.lt_of_le_of_lt (Nat.div_le_self _ _) hr.2)
  have mb : Bd 9000 ((r.den.gcd s.den : Nat) : Int) := bd_mono b1 (by decide)
  refine ⟨cdiv_of g1 mb, cmul_of hr.1 ds (by decide) (by decide) (by decide), cdiv_of g1 mb, cmul_of hs.1 dr (by decide) (by decide) (by decide), call_gcd ?_⟩
  have e0 : r.num * ((s.den : Int).fdiv (r.den.gcd s.den : Nat)) + s.num * ((r.den : Int).fdiv (r.den.gcd s.den : Nat)) = bothN r s := by rw [f1, f1]; rfl
  rw [e0]
  have eg2 : Int.gcd (bothN r s) ((r.den.gcd s.den : Nat) : Int) = Nat.gcd (bothN r s).natAbs (r.den.gcd s.den) := rfl
  rw [eg2]
  have h2 : Nat.gcd (bothN r s).natAbs (r.den.gcd s.den) ≠ 0 := Nat.gcd_ne_zero_right g0
  have g2 : ((Nat.gcd (bothN r s).natAbs (r.den.gcd s.den) : Nat) : Int) ≠ 0 := by omega
  have b2 : Bd 9000 ((Nat.gcd (bothN r s).natAbs (r.den.gcd s.den) : Nat) : Int) := bd_le mb (by
    show Nat.gcd (bothN r s).natAbs (r.den.gcd s.den) ≤ r.den.gcd s.den
    exact Nat.le_of_dvd (by omega) (Nat.gcd_dvd_right ..))
  have e1 := add_num r s
  have e2 := add_den r s
  have e3 : ratD (r + s) = .tup [.int (r + s).num, .int (r + s).den] := rfl
  rw [e3, e1, e2, ← f1] at hq
  refine ⟨cdiv_of g2 b2, cdiv_of g1 mb, cdiv_of g2 b2, cmul_of dr (n := 8999) (m := 8999) ?_ (by decide) (by decide) (by decide), bodyR hq⟩
  rw [f1]
  exact bd_nat (Nat.lt_of_le_of_lt (Nat.div_le_self _ _) hs.2)
theorem sat_reduced : ∀ ds Q E', W_reduced ds Q E' → p_reduced (bodyEnds Q) (entry 1 ds) (fun e _ => E' e) := by
  rintro ds Q E' ⟨⟨a, b, rfl, hb, hB⟩, h, _⟩
  have hq := h _ ⟨a, b, rfl, rfl⟩
  unfold p_reduced
  walk_at "dl"
  simp only [at0, at1]
  exact ⟨⟨a, b, rfl, by omega, hB⟩, fun z ⟨a', b', e, ez⟩ => by cases e; rw [ez]; exact bodyR hq, fun _ z => z.elim⟩
end C
set_option Elab.async false
set_option maxRecDepth 100000
set_option maxHeartbeats 1000000
set_option linter.unusedVariables false
namespace C
open PySem PySem.Spec PyProof.Rows L2 NdefX DL
local macro_rules | `(tactic| walk_at "dl") => `(tactic| simp only [wSeq, wIf, wNext, wRet, wRetN, wDrop, wSet, wTest, wAndB, wOrB, wNotB, wIsi, wVar, wC, wOp, wRaise, wCall, wCons, wNil, wFun, wPar, wTup, wNeg, wUn, wIfE, wAndV, wOrV, wNotV, wUnp2, wLst, wIxO, wLenO, wSetIx, wAppend, wDic0, wFor, wItemsL, wItemsS, wRng1, wRng2, wListRev, dgName, roAdd, roI, roI0, roB, roIx, roIsN, roF, roL, datas, List.map_cons, List.map_nil, entry, List.length_cons, List.length_nil, List.cons_append, List.nil_append, List.replicate, List.replicate_succ, List.replicate_zero, Nat.reduceAdd, Nat.reduceSub, Nat.zero_add,
  List.getElem?_cons_zero, List.getElem?_cons_succ, List.set_cons_zero, List.set_cons_succ, dat_sh, dat_ow, dat_dp, DL.isInt, DL.isBool, DL.isStr, DL.isLst, DL.isTup, PinD, Bool.not_true, Bool.not_false, Bool.false_eq_true, if_true, if_false, true_and, and_true, OkAD, bodyEnds, pInt1, pInt2, fAbs, fMin, fMax, pIntOf, fIntOf, pLen, fLen, pSeq, fSeq, reduceIte, decide_eq_true_eq, ite_true, ite_false, Bool.and_eq_true, Bool.not_eq_true', roEq_int, Bool.true_xor, Bool.false_xor])
theorem frF_none {d : D} (h : frF d = some none) : ∃ i j, d = .tup [.int i, .int j] ∧ 1 ≤ j := by
  cases d with
  | tup l =>
    match l with
    | [] => simp only [frF, Option.some.injEq, reduceCtorEq] at h
    | [a] => simp only [frF, Option.some.injEq, reduceCtorEq] at h
    | a :: b :: c :: r => simp only [frF, Option.some.injEq, reduceCtorEq] at h
    | [a, b] =>
      obtain ⟨_, _, hh⟩ := frF_tup h
      rcases hh with ⟨i, j, rfl, rfl, hj, ho⟩ | ⟨i, j, rfl, rfl, hj, ho⟩ | ⟨h3, ho⟩ | ⟨h3, h4, ho⟩
      · exact ⟨i, j, rfl, hj⟩
      all_goals cases ho
  | _ => simp only [frF, isI, Option.map_some, Option.map_none, Option.some.injEq, reduceCtorEq] at h
theorem chk_fr {d : D} {z : Str} {Q : Sl → Prop} {E : Er → Prop} (hz : z.length ≤ 1000) (h0 : frF d = some none → Q (.sh .non)) (h1 : ∀ c, frF d = some (some c) → E (Er1 c z)) (h : (frF d).isSome = true) : W_check_fraction [d, .str z] Q E := by
  unfold W_check_fraction
  cases hd : frF d with
  | none => rw [hd] at h; cases h
  | some b => cases b with
    | none => exact WF_ok (d := .non) (by unfold f_check_fraction; simp only []; rw [if_pos hz, hd]; rfl) (h0 hd)
    | some c => exact WF_err (x := Er1 c z) (by unfold f_check_fraction; simp only []; rw [if_pos hz, hd]; rfl) (h1 c hd)
theorem two_get {n : Nat} {op : Rat → Rat → Option Rat} {ds : List D} {Q : Sl → Prop} {E : Er → Prop} (h : WB n (two op) ds Q E) : ∃ x y, ds = [x, y] ∧ (frF x).isSome = true ∧ (frF y).isSome = true ∧ BdF n x ∧ BdF n y ∧ (∀ c, frF x = some (some c) → E (Er1 c "first")) ∧ (frF x = some none → ∀ c, frF y = some (some c) → E (Er1 c "second")) ∧ (frF x = some none → frF y = some none → (∀ r, op (valF x) (valF y) = some r → Q (.sh (ratD r))) ∧ (op (valF x) (valF y) = none → E (Er1 "OutOfRange" "second"))) := by
  obtain ⟨hb, h⟩ := h
  have key : ∃ x y, ds = [x, y] := by
    rcases WF_get h with ⟨r, e, hq⟩ | ⟨r, e, hq⟩ <;>
    · unfold two at e
      split at e
      · exact ⟨_, _, rfl⟩
      · cases e
  obtain ⟨x, y, rfl⟩ := key
  refine ⟨x, y, rfl, ?_⟩
  have b1 := hb x (List.mem_cons_self ..)
  have b2 := hb y (List.mem_cons_of_mem _ (List.mem_cons_self ..))
  unfold WF two at h
  simp only [] at h
  cases hx : frF x with
  | none => rw [hx] at h; exact h.elim
  | some o1 => cases hy : frF y with
    | none => rw [hx, hy] at h; cases o1 <;> exact h.elim
    | some o2 =>
      rw [hx, hy] at h
      refine ⟨rfl, rfl, b1, b2, fun c k => ?_, fun k c k2 => ?_, fun k k2 => ⟨fun r k3 => ?_, fun k3 => ?_⟩⟩
      · cases k; exact h
      · cases k; cases k2; exact h
      · cases k; cases k2; simp only [k3] at h; exact h
      · cases k; cases k2; simp only [k3] at h; exact h
theorem call_reduced {a b : Int} {Q : Sl → Prop} {E : Er → Prop} (hb : 1 ≤ b) (hB : Bd 8999 b) (h : Q (.sh (ratD (Rat.divInt a b)))) : W_reduced [.tup [.int a, .int b]] Q E :=
  ⟨⟨a, b, rfl, hb, hB⟩, fun z ⟨a', b', e, ez⟩ => by cases e; rw [ez]; exact h, fun _ z => z.elim⟩
theorem call_lowest {a b : Int} {Q : Sl → Prop} {E : Er → Prop} (hb : b ≠ 0) (hB : Bd 8999 b) (h : Q (.sh (ratD (Rat.divInt a b)))) : W_lowest [.int a, .int b] Q E :=
  ⟨⟨a, b, rfl, hb, hB⟩, fun z ⟨a', b', e, ez⟩ => by cases e; rw [ez]; exact h, fun _ z => z.elim⟩
theorem ratD_inj {r s : Rat} (h : ratD r = ratD s) : r = s := by
  unfold ratD at h
  simp only [D.tup.injEq, List.cons.injEq, D.int.injEq, and_true] at h
  exact Rat.ext h.1 (by omega)
theorem call_plus {r s : Rat} {Q : Sl → Prop} {E : Er → Prop} (hr : RB 8999 r) (hs : RB 8999 s) (h : Q (.sh (ratD (r + s)))) : W_plus [ratD r, ratD s] Q E :=
  ⟨⟨r, s, rfl, hr, hs⟩, fun z ⟨r', s', e, ez⟩ => by
    simp only [List.cons.injEq, and_true] at e
    rw [ez, ← ratD_inj e.1, ← ratD_inj e.2]; exact h, fun _ z => z.elim⟩
theorem call_times {r s : Rat} {Q : Sl → Prop} {E : Er → Prop} (hr : RB 8999 r) (hs : RB 8999 s) (h : Q (.sh (ratD (r * s)))) : W_times [ratD r, ratD s] Q E :=
  ⟨⟨r, s, rfl, hr, hs⟩, fun z ⟨r', s', e, ez⟩ => by
    simp only [List.cons.injEq, and_true] at e
    rw [ez, ← ratD_inj e.1, ← ratD_inj e.2]; exact h, fun _ z => z.elim⟩
theorem rb_div {n m : Nat} {a b : Int} (hb : b ≠ 0) (h1 : Bd n a) (h2 : Bd n b) (hm : n ≤ m) : RB m (Rat.divInt a b) := by
  constructor
  · refine bd_mono (bd_le h1 ?_) hm
    rw [Rat.num_divInt]
    refine Nat.le_trans (Int.natAbs_ediv_le_natAbs _ _) ?_
    rw [Int.natAbs_mul, Int.natAbs_sign, if_neg hb, Nat.one_mul]
    exact Nat.le_refl _
  · rw [Rat.den_divInt, if_neg hb]
    have := bd_mono h2 hm
    unfold Bd at this
    exact Nat.lt_of_le_of_lt (Nat.div_le_self _ _) this
theorem bd_neg {n : Nat} {a : Int} (h : Bd n a) : Bd n (-a) := by unfold Bd at *; omega
theorem sat_ratio_sum : ∀ ds Q E', W_ratio_sum ds Q E' → p_ratio_sum (bodyEnds Q) (entry 2 ds) (fun e _ => E' e) := by
  intro ds Q E' h
  obtain ⟨x, y, rfl, hx, hy, bx, by', h1, h2, h3⟩ := two_get h
  unfold p_ratio_sum
  walk_at "dl"
  refine chk_fr (by decide) (fun k1 => ?_) h1 hx
  refine chk_fr (by decide) (fun k2 => ?_) (h2 k1) hy
  obtain ⟨a, b, rfl, hb⟩ := frF_none k1
  obtain ⟨c, d, rfl, hd⟩ := frF_none k2
  have h3 := (h3 k1 k2).1 _ rfl
  exact call_reduced hb (bd_mono bx.2 (by decide)) (call_reduced hd (bd_mono by'.2 (by decide)) (call_plus (rb_div (by omega) bx.1 bx.2 (by decide)) (rb_div (by omega) by'.1 by'.2 (by decide)) (bodyR h3)))
theorem sat_ratio_product : ∀ ds Q E', W_ratio_product ds Q E' → p_ratio_product (bodyEnds Q) (entry 2 ds) (fun e _ => E' e) := by
  intro ds Q E' h
  obtain ⟨x, y, rfl, hx, hy, bx, by', h1, h2, h3⟩ := two_get h
  unfold p_ratio_product
  walk_at "dl"
  refine chk_fr (by decide) (fun k1 => ?_) h1 hx
  refine chk_fr (by decide) (fun k2 => ?_) (h2 k1) hy
  obtain ⟨a, b, rfl, hb⟩ := frF_none k1
  obtain ⟨c, d, rfl, hd⟩ := frF_none k2
  have h3 := (h3 k1 k2).1 _ rfl
  exact call_reduced hb (bd_mono bx.2 (by decide)) (call_reduced hd (bd_mono by'.2 (by decide)) (call_times (rb_div (by omega) bx.1 bx.2 (by decide)) (rb_div (by omega) by'.1 by'.2 (by decide)) (bodyR h3)))
theorem sat_ratio_difference : ∀ ds Q E', W_ratio_difference ds Q E' → p_ratio_difference (bodyEnds Q) (entry 2 ds) (fun e _ => E' e) := by
  intro ds Q E' h
  obtain ⟨x, y, rfl, hx, hy, bx, by', h1, h2, h3⟩ := two_get h
  unfold p_ratio_difference
  walk_at "dl"
  refine chk_fr (by decide) (fun k1 => ?_) h1 hx
  refine chk_fr (by decide) (fun k2 => ?_) (h2 k1) hy
  obtain ⟨a, b, rfl, hb⟩ := frF_none k1
  obtain ⟨c, d, rfl, hd⟩ := frF_none k2
  have h3 := (h3 k1 k2).1 _ rfl
  try walk_at "dl"
  simp only [at0, at1]
  try walk_at "dl"
  refine call_reduced hb (bd_mono bx.2 (by decide)) (call_lowest (by omega) (bd_mono by'.2 (by decide)) (call_plus (rb_div (by omega) bx.1 bx.2 (by decide)) (rb_div (by omega) (bd_neg by'.1) by'.2 (by decide)) (bodyR ?_)))
  have e : Rat.divInt a b + Rat.divInt (-c) d = valF (.tup [.int a, .int b]) - valF (.tup [.int c, .int d]) := by
    rw [Rat.sub_eq_add_neg]
    show _ = Rat.divInt a b + -(Rat.divInt c d)
    rw [Rat.neg_divInt]
  rw [e]
  exact h3
theorem sat_ratio_quotient : ∀ ds Q E', W_ratio_quotient ds Q E' → p_ratio_quotient (bodyEnds Q) (entry 2 ds) (fun e _ => E' e) := by
  intro ds Q E' h
  obtain ⟨x, y, rfl, hx, hy, bx, by', h1, h2, h3⟩ := two_get h
  unfold p_ratio_quotient
  walk_at "dl"
  refine chk_fr (by decide) (fun k1 => ?_) h1 hx
  refine chk_fr (by decide) (fun k2 => ?_) (h2 k1) hy
  obtain ⟨a, b, rfl, hb⟩ := frF_none k1
  obtain ⟨c, d, rfl, hd⟩ := frF_none k2
  obtain ⟨h4, h5⟩ := h3 k1 k2
  have hv : valF (.tup [.int c, .int d]) = 0 ↔ c = 0 := by
    show Rat.divInt c d = 0 ↔ _
    have e0 : (0 : Rat) = Rat.divInt 0 1 := rfl
    rw [e0, Rat.divInt_eq_divInt_iff (by omega) (by decide)]
    omega
  try walk_at "dl"
  simp only [at0, at1]
  try walk_at "dl"
  by_cases hc : c = 0
  · simp only [hc, decide_true, if_true]
    exact ⟨by decide, h5 (if_pos (hv.mpr hc))⟩
  · simp only [hc, decide_false, Bool.false_eq_true, if_false]
    have h6 := h4 _ (if_neg (fun z => hc (hv.mp z)))
    refine call_reduced hb (bd_mono bx.2 (by decide)) (call_lowest hc (bd_mono by'.1 (by decide)) (call_times (rb_div (by omega) bx.1 bx.2 (by decide)) (rb_div hc by'.2 by'.1 (by decide)) (bodyR ?_)))
    have e : Rat.divInt a b * Rat.divInt d c = valF (.tup [.int a, .int b]) / valF (.tup [.int c, .int d]) := by
      rw [Rat.div_def]
      show _ = Rat.divInt a b * (Rat.divInt c d)⁻¹
      rw [Rat.inv_divInt]
    rw [e]
    exact h6
end C
set_option Elab.async false
set_option maxRecDepth 100000
set_option maxHeartbeats 1000000
set_option linter.unusedVariables false
namespace C
open PySem PySem.Spec PyProof.Rows L2 NdefX DL
local macro_rules | `(tactic| walk_at "dl") => `(tactic| simp only [wSeq, wIf, wNext, wRet, wRetN, wDrop, wSet, wTest, wAndB, wOrB, wNotB, wIsi, wVar, wC, wOp, wRaise, wCall, wCons, wNil, wFun, wPar, wTup, wNeg, wUn, wIfE, wAndV, wOrV, wNotV, wUnp2, wLst, wIxO, wLenO, wSetIx, wAppend, wDic0, wFor, wItemsL, wItemsS, wRng1, wRng2, wListRev, dgName, roAdd, roI, roI0, roB, roIx, roIsN, roF, roL, datas, List.map_cons, List.map_nil, entry, List.length_cons, List.length_nil, List.cons_append, List.nil_append, List.replicate, List.replicate_succ, List.replicate_zero, Nat.reduceAdd, Nat.reduceSub, Nat.zero_add,
  List.getElem?_cons_zero, List.getElem?_cons_succ, List.set_cons_zero, List.set_cons_succ, dat_sh, dat_ow, dat_dp, DL.isInt, DL.isBool, DL.isStr, DL.isLst, DL.isTup, PinD, Bool.not_true, Bool.not_false, Bool.false_eq_true, if_true, if_false, true_and, and_true, OkAD, bodyEnds, pInt1, pInt2, fAbs, fMin, fMax, pIntOf, fIntOf, pLen, fLen, pSeq, fSeq, reduceIte, decide_eq_true_eq, ite_true, ite_false, Bool.and_eq_true, Bool.not_eq_true', roEq_int, Bool.true_xor, Bool.false_xor])
/-! ### loops -/
theorem forD_ind {g : DG} {b : DS} {N : DEn} {E : EC} (J : List D → DEnv → Prop) (hnil : ∀ ρ, J [] ρ → N.nx ρ) (hcons : ∀ d ds ρ, J (d :: ds) ρ → ∀ K : DEnv → Prop, (∀ ρ2, J ds ρ2 → K ρ2) → g d ρ (fun ρ' => b { N with nx := K, ct := K, bk := N.nx } ρ' E)) : ∀ ds ρ, J ds ρ → forD g b N E ds ρ
  | [], ρ, h => hnil ρ h
  | d :: ds, ρ, h => hcons d ds ρ h _ fun ρ2 k => forD_ind J hnil hcons ds ρ2 k
theorem rangeD_succ {lo : Int} {n : Nat} : rangeD lo (n + 1) = .int lo :: rangeD (lo + 1) n := by
  unfold rangeD
  rw [List.range_succ_eq_map, List.map_cons, List.map_map]
  congr 1
  · simp
  · refine List.map_congr_left fun a _ => ?_
    show D.int _ = D.int _
    congr 1
    show lo + ((a + 1 : Nat) : Int) = lo + 1 + a
    omega
/-- a loop over a range, by a word over the turn -/
theorem forD_rng {g : DG} {b : DS} {N : DEn} {E : EC} (J : Nat → DEnv → Prop) {n : Nat} (hend : ∀ ρ, J n ρ → N.nx ρ) (hstep : ∀ k ρ, k < n → J k ρ → ∀ K : DEnv → Prop, (∀ ρ2, J (k + 1) ρ2 → K ρ2) → g (.int k) ρ (fun ρ' => b { N with nx := K, ct := K, bk := N.nx } ρ' E)) : ∀ {ρ}, J 0 ρ → forD g b N E (rangeD 0 n) ρ := by
  intro ρ h
  refine forD_ind (fun ds ρ => ∃ k : Nat, k ≤ n ∧ ds = rangeD k (n - k) ∧ J k ρ) ?_ ?_ _ _ ⟨0, by omega, by simp, h⟩
  · rintro ρ ⟨k, hk, e, hj⟩
    cases hm : n - k with
    | zero =>
      have : k = n := by omega
      subst this
      exact hend _ hj
    | succ m => rw [hm, rangeD_succ] at e; cases e
  · rintro d ds ρ ⟨k, hk, e, hj⟩ K hK
    cases hm : n - k with
    | zero => rw [hm] at e; cases e
    | succ m =>
      rw [hm, rangeD_succ] at e
      cases e
      refine hstep k ρ (by omega) hj K fun ρ2 k2 => hK ρ2 ⟨k + 1, by omega, ?_, k2⟩
      have : n - (k + 1) = m := by omega
      rw [this]
      rfl
theorem cm_r {i j : Int} (h : -(2 ^ 64) < j ∧ j < 2 ^ 64) : CMulA i j := .inl (.inr h)
theorem cm_l {i j : Int} (h : -(2 ^ 64) < i ∧ i < 2 ^ 64) : CMulA i j := .inl (.inl h)
theorem fm {i m : Int} (h : 0 < m) : 0 ≤ i.fmod m ∧ i.fmod m < m := ⟨Int.fmod_nonneg_of_pos i h, Int.fmod_lt_of_pos i h⟩
theorem cnz {i j : Int} (h : j ≠ 0 := by decide) : CNz i j := h
theorem cdv {i j : Int} (h : j ≠ 0 ∧ j.natAbs.log2 < 9000 := by decide) : CDivA i j := h
theorem atD_in {l : List D} {i : Int} (h0 : 0 ≤ i) (h : i < l.length) : ∃ x, x ∈ l ∧ atD l i = some x := by
  have hn : i.toNat < l.length := by omega
  refine ⟨l[i.toNat], List.getElem_mem hn, ?_⟩
  unfold atD atI ixN
  rw [if_pos (by omega), if_pos (by omega)]
  exact List.getElem?_eq_getElem hn
theorem sat_law_mixed : ∀ ds Q E', W_law_mixed ds Q E' → p_law_mixed (bodyEnds Q) (entry 4 ds) (fun e _ => E' e) := by
  rintro ds Q E' ⟨⟨c, n, rfl⟩, h, _⟩
  unfold p_law_mixed
  walk_at "dl"
  have b1 : ∀ x : Int, 0 ≤ x.fmod 2147483647 ∧ x.fmod 2147483647 < 2147483647 := fun x => fm (by decide)
  refine ⟨cnz, cm_r (by decide), cm_r (by decide), cnz, cm_l (by have := b1 (c.fmod 2147483647 * 48271 + n * 69621 + 8191); omega), cm_r (by decide), cnz, cdv, cm_r (by decide), cnz, cm_r (by decide), cnz, cnz, bodyR (h _ ⟨_, rfl, fm (by decide)⟩)⟩
theorem call_mixed {c n : Int} {Q : Sl → Prop} {E : Er → Prop} (h : ∀ r, 0 ≤ r → r < 2147483399 → Q (.sh (.int r))) : W_law_mixed [.int c, .int n] Q E :=
  ⟨⟨c, n, rfl⟩, fun z ⟨r, e, h1, h2⟩ => by rw [e]; exact h r h1 h2, fun _ z => z.elim⟩
theorem bits_le {m : Int} (h : Bd 100000 m) : Builtin.Int.intBits m ≤ 100000 := by
  unfold Builtin.Int.intBits
  split
  · omega
  · exact bd_log (by decide) h
theorem sat_law_wide : ∀ ds Q E', W_law_wide ds Q E' → p_law_wide (bodyEnds Q) (entry 5 ds) (fun e _ => E' e) := by
  rintro ds Q E' ⟨⟨c, n, m, rfl, hm, hB⟩, h, _⟩
  unfold p_law_wide
  walk_at "dl"
  refine call_mixed fun r _ _ => ⟨cdv, ⟨?_, ?_⟩, forD_rng (fun k ρ => ∃ t x, ρ = [.sh (.int c), .sh (.int n), .sh (.int m), .sh (.int t), x]) ?_ ?_ ⟨_, _, rfl⟩⟩
  · have := bits_le hB
    rw [Int.fdiv_eq_ediv_of_nonneg _ (by decide)]; omega
  · have := bits_le hB
    rw [Int.fdiv_eq_ediv_of_nonneg _ (by decide)]; omega
  · rintro ρ ⟨t, x, rfl⟩
    try walk_at "dl"
    exact ⟨cnz (by omega), bodyR (h _ ⟨_, rfl, c, n, m, rfl, fm (by omega)⟩)⟩
  · rintro k ρ hk ⟨t, x, rfl⟩ K hK
    try walk_at "dl"
    exact ⟨cm_r (by decide), cm_l (by decide), call_mixed fun r _ _ => hK _ ⟨_, _, rfl⟩⟩
theorem call_take {m : Int} {Q : Sl → Prop} {E : Er → Prop} (hB : Bd 8999 m) (h : ∀ r, 0 ≤ r → (r < m ∨ r = 0) → Q (.sh (.int r))) : W_law_take [.sto, .int m] Q E :=
  ⟨⟨m, rfl, hB⟩, fun z ⟨r, e, m', em, h1, h2⟩ => by cases em; rw [e]; exact h r h1 h2, fun _ z => z.elim⟩
theorem bd_lit {n : Nat} {i : Int} (h : i.natAbs < 2 ^ n := by decide) : Bd n i := h
theorem bd_le0 {n m : Nat} {i : Int} (h : i.natAbs < 2 ^ n) (hm : n ≤ m) : Bd m i := bd_mono h hm
theorem sat_law_near : ∀ ds Q E', W_law_near ds Q E' → p_law_near (bodyEnds Q) (entry 4 ds) (fun e _ => E' e) := by
  rintro ds Q E' ⟨⟨a, b, rfl, hab, ha, hb⟩, h, _⟩
  have hq : ∀ r, a ≤ r → r ≤ b → Q (.sh (.int r)) := fun r h1 h2 => h _ ⟨r, rfl, a, b, rfl, h1, h2⟩
  unfold p_law_near
  walk_at "dl"
  refine call_take (bd_le0 (n := 5) (by decide) (by decide)) fun r h0 h1 => ?_
  try walk_at "dl"
  by_cases hr : r < 4
  · rw [if_pos hr]
    intro p
    obtain ⟨x, hx, e⟩ := atD_in (l := [D.int a, .int b, .int (min (a + 1) b), .int (max (b - 1) a)]) h0 (by simpa using hr)
    refine ⟨x, e, bodyR ?_⟩
    simp only [List.mem_cons, List.not_mem_nil, or_false] at hx
    rcases hx with rfl | rfl | rfl | rfl <;> exact hq _ (by omega) (by omega)
  · rw [if_neg hr]
    refine call_take (bd_mono (bd_add (bd_mono (bd_add hb (bd_neg ha)) (Nat.le_refl _)) (bd_le0 (n := 1) (by decide) (by decide))) (by decide)) fun r' h0' h1' => bodyR (hq _ (by omega) (by omega))
theorem call_near {a b : Int} {Q : Sl → Prop} {E : Er → Prop} (hab : a ≤ b) (ha : Bd 8000 a) (hb : Bd 8000 b) (h : ∀ r, a ≤ r → r ≤ b → Q (.sh (.int r))) : W_law_near [.sto, .int a, .int b] Q E :=
  ⟨⟨a, b, rfl, hab, ha, hb⟩, fun z ⟨r, e, a', b', em, h1, h2⟩ => by cases em; rw [e]; exact h r h1 h2, fun _ z => z.elim⟩
theorem sat_law_ten : ∀ ds Q E', W_law_ten ds Q E' → p_law_ten (bodyEnds Q) (entry 3 ds) (fun e _ => E' e) := by
  rintro ds Q E' ⟨⟨n, rfl, h0, h1⟩, h, _⟩
  have hq := h _ ⟨_, rfl, n, rfl, rfl⟩
  unfold p_law_ten
  walk_at "dl"
  refine ⟨⟨by omega, by omega⟩, forD_rng (fun k ρ => ∃ x, ρ = [.sh (.int n), .sh (.int (10 ^ k)), x]) ?_ ?_ ⟨_, rfl⟩⟩
  · rintro ρ ⟨x, rfl⟩
    try walk_at "dl"
    exact bodyR hq
  · rintro k ρ hk ⟨x, rfl⟩ K hK
    try walk_at "dl"
    exact ⟨cm_r (by decide), hK _ ⟨_, by rw [Int.pow_succ]⟩⟩
theorem call_ten {n : Int} {Q : Sl → Prop} {E : Er → Prop} (h0 : 0 ≤ n) (h1 : n ≤ 1000) (h : Q (.sh (.int (10 ^ n.toNat)))) : W_law_ten [.int n] Q E :=
  ⟨⟨n, rfl, h0, h1⟩, fun z ⟨r, e, m, em, er⟩ => by cases em; rw [e, er]; exact h, fun _ z => z.elim⟩
theorem ten_pos (k : Nat) : (1 : Int) ≤ 10 ^ k := by
  have : (0 : Int) < 10 ^ k := Int.pow_pos (by decide)
  omega
theorem ten_mono {a b : Nat} (h : a ≤ b) : (10 : Int) ^ a ≤ 10 ^ b := by
  have := Nat.pow_le_pow_right (n := 10) (by decide) h
  have e : ∀ k : Nat, ((10 ^ k : Nat) : Int) = 10 ^ k := fun k => by rw [Int.natCast_pow]; rfl
  rw [← e, ← e]
  omega
theorem ten_bd {k n : Nat} (h : 4 * k ≤ n) : Bd n (10 ^ k - 1) := by
  have h1 : (10 : Nat) ^ k ≤ 16 ^ k := Nat.pow_le_pow_left (by decide) k
  have h2 : (16 : Nat) ^ k = 2 ^ (4 * k) := by rw [Nat.pow_mul]
  have h3 : (2 : Nat) ^ (4 * k) ≤ 2 ^ n := Nat.pow_le_pow_right (by decide) h
  have e : ((10 ^ k : Nat) : Int) = 10 ^ k := by rw [Int.natCast_pow]; rfl
  have := ten_pos k
  unfold Bd
  omega
theorem sat_law_integer : ∀ ds Q E', W_law_integer ds Q E' → p_law_integer (bodyEnds Q) (entry 4 ds) (fun e _ => E' e) := by
  rintro ds Q E' ⟨⟨n, rfl, h2, h3⟩, h, _⟩
  have e : ∀ k : Nat, ((10 ^ k : Nat) : Int) = 10 ^ k := fun k => by rw [Int.natCast_pow]; rfl
  have hq : ∀ r : Int, -(10 ^ n.toNat) < r → r < 10 ^ n.toNat → Q (.sh (.int r)) := fun r h1 h2 => h _ ⟨r, rfl, n, rfl, by have := e n.toNat; omega⟩
  have h100 : (100 : Int) ≤ 10 ^ n.toNat := ten_mono (a := 2) (by omega)
  have fin : ∀ k : Nat, k ≤ n.toNat → W_law_near [.sto, .int (0 - (10 ^ k - 1)), .int (10 ^ k - 1)] (fun x => ∃ y, Cv x y ∧ Q y) E' := fun k hk => by
    have b := ten_bd (k := k) (n := 8000) (by omega)
    have p := ten_pos k
    have m := ten_mono hk
    exact call_near (by omega) (by have := bd_neg b; rwa [Int.zero_sub]) b fun r h1 h2 => bodyR (hq r (by omega) (by omega))
  unfold p_law_integer
  walk_at "dl"
  refine call_take (bd_le0 (n := 5) (by decide) (by decide)) fun r h0 h1 => ?_
  try walk_at "dl"
  by_cases hr : r < 4
  · rw [if_pos hr]
    intro p
    obtain ⟨x, hx, e⟩ := atD_in (l := [D.int 0, .int 1, .int (-1), .int 2]) h0 (by simpa using hr)
    refine ⟨x, e, bodyR ?_⟩
    simp only [List.mem_cons, List.not_mem_nil, or_false] at hx
    rcases hx with rfl | rfl | rfl | rfl <;> exact hq _ (by omega) (by omega)
  · rw [if_neg hr]
    by_cases hr8 : r < 8
    · rw [if_pos hr8]
      exact call_take (bd_le0 (n := 6) (by decide) (by decide)) fun r h0 h1 => bodyR (hq _ (by omega) (by omega))
    · rw [if_neg hr8]
      refine call_ten (by omega) (by omega) ?_
      try walk_at "dl"
      by_cases h10 : r = 10
      · rw [if_pos h10]
        refine call_ten (by omega) (by omega) ?_
        try walk_at "dl"
        rw [if_neg (by omega)]
        exact fin _ (by omega)
      · rw [if_neg h10]
        by_cases h11 : r = 11
        · rw [if_pos h11]
          exact call_ten (by omega) (by omega) (fin _ (by omega))
        · rw [if_neg h11]
          exact fin _ (by omega)
theorem call_integer {n : Int} {Q : Sl → Prop} {E : Er → Prop} (h0 : 2 ≤ n) (h1 : n ≤ 1000) (h : ∀ r : Int, r.natAbs < 10 ^ n.toNat → Q (.sh (.int r))) : W_law_integer [.sto, .int n] Q E :=
  ⟨⟨n, rfl, h0, h1⟩, fun z ⟨r, e, m, em, er⟩ => by cases em; rw [e]; exact h r er, fun _ z => z.elim⟩
theorem sat_law_fraction : ∀ ds Q E', W_law_fraction ds Q E' → p_law_fraction (bodyEnds Q) (entry 5 ds) (fun e _ => E' e) := by
  rintro ds Q E' ⟨⟨n, rfl, n0, n1⟩, h, _⟩
  have hq : ∀ a b : Int, 1 ≤ b → a.natAbs ≤ 3000 * 10 ^ (n - 4).toNat → b.natAbs ≤ 1000 * 10 ^ (n - 4).toNat → Q (.sh (.tup [.int a, .int b])) := fun a b h1 h2 h3 => h _ ⟨n, a, b, rfl, rfl, h1, h2, h3⟩
  have T1 : 1 ≤ 10 ^ (n - 4).toNat := Nat.one_le_pow _ _ (by decide)
  have last : ∀ t l : Int, 1 ≤ l → t.natAbs ≤ 3 * 10 ^ (n - 4).toNat → l.natAbs ≤ 10 ^ (n - 4).toNat → ∀ r : Int, 0 ≤ r → r < 4 → ∃ i : Int, atD [D.int 1, .int 1, .int 2, .int 999] r = some (.int i) ∧ CMulA t i ∧ CMulA l i ∧ Q (.sh (.tup [.int (t * i), .int (l * i)])) := fun t l hl ht hl2 r h0 h1 => by
    obtain ⟨x, hx, e⟩ := atD_in (l := [D.int 1, .int 1, .int 2, .int 999]) h0 (by simpa using h1)
    have : ∃ i : Int, x = .int i ∧ 1 ≤ i ∧ i < 1000 := by
      simp only [List.mem_cons, List.not_mem_nil, or_false] at hx
      rcases hx with rfl | rfl | rfl | rfl <;> exact ⟨_, rfl, by decide, by decide⟩
    obtain ⟨i, rfl, h3, h4⟩ := this
    have bi : i.natAbs ≤ 1000 := by omega
    have m1 : (t * i).natAbs ≤ (3 * 10 ^ (n - 4).toNat) * 1000 := by rw [Int.natAbs_mul]; exact Nat.mul_le_mul ht bi
    have m2 : (l * i).natAbs ≤ 10 ^ (n - 4).toNat * 1000 := by rw [Int.natAbs_mul]; exact Nat.mul_le_mul hl2 bi
    refine ⟨i, e, cm_r (by omega), cm_r (by omega), hq _ _ ?_ (by omega) (by omega)⟩
    have : 0 < l * i := Int.mul_pos (by omega) (by omega)
    omega
  unfold p_law_fraction
  walk_at "dl"
  refine call_integer (by omega) (by omega) fun t ht => ?_
  try walk_at "dl"
  refine call_integer (by omega) (by omega) fun l hl => ?_
  try walk_at "dl"
  generalize 10 ^ (n - 4).toNat = TT at ht hl T1 last
  obtain ⟨b, hb, b1, b2⟩ : ∃ b : Int, ((l.natAbs : Int) + if decide ((l.natAbs : Int) = 0) = true then 1 else 0) = b ∧ 1 ≤ b ∧ b ≤ TT := ⟨_, rfl, by split <;> simp_all <;> omega, by split <;> simp_all <;> omega⟩
  simp only [decide_eq_true_eq] at hb
  simp only [hb]
  refine call_take (bd_le0 (n := 5) (by decide) (by decide)) fun r h0 h1 => ?_
  try walk_at "dl"
  by_cases hr : r = 0
  · rw [if_pos hr]
    refine call_take (bd_le0 (n := 5) (by decide) (by decide)) fun r1 h2 h3 => ?_
    try walk_at "dl"
    refine ⟨cm_r (by omega), fun p => call_take (bd_le0 (n := 5) (by decide) (by decide)) fun r2 h4 h5 => ?_⟩
    try walk_at "dl"
    obtain ⟨i, e1, e2, e3, e4⟩ := last (b * (r1 - 3)) b b1 (by
      rw [Int.natAbs_mul]
      have : b.natAbs * (r1 - 3).natAbs ≤ TT * 3 := Nat.mul_le_mul (by omega) (by omega)
      omega) (by omega) r2 h4 (by omega)
    exact ⟨_, e1, e2, e3, bodyR e4⟩
  · rw [if_neg hr]
    refine fun p => call_take (bd_le0 (n := 5) (by decide) (by decide)) fun r2 h4 h5 => ?_
    try walk_at "dl"
    obtain ⟨i, e1, e2, e3, e4⟩ := last t b b1 (by omega) (by omega) r2 h4 (by omega)
    exact ⟨_, e1, e2, e3, bodyR e4⟩
end C
set_option Elab.async false
set_option maxRecDepth 100000
set_option maxHeartbeats 1000000
set_option linter.unusedVariables false
namespace C
open PySem PySem.Spec PyProof.Rows L2 NdefX DL
local macro_rules | `(tactic| walk_at "dl") => `(tactic| simp only [wSeq, wIf, wNext, wRet, wRetN, wDrop, wSet, wTest, wAndB, wOrB, wNotB, wIsi, wVar, wC, wOp, wRaise, wCall, wCons, wNil, wFun, wPar, wTup, wNeg, wUn, wIfE, wAndV, wOrV, wNotV, wUnp2, wLst, wIxO, wLenO, wSetIx, wAppend, wDic0, wFor, wItemsL, wItemsS, wRng1, wRng2, wListRev, dgName, roAdd, roI, roI0, roB, roIx, roIsN, roF, roL, datas, List.map_cons, List.map_nil, entry, List.length_cons, List.length_nil, List.cons_append, List.nil_append, List.replicate, List.replicate_succ, List.replicate_zero, Nat.reduceAdd, Nat.reduceSub, Nat.zero_add,
  List.getElem?_cons_zero, List.getElem?_cons_succ, List.set_cons_zero, List.set_cons_succ, dat_sh, dat_ow, dat_dp, DL.isInt, DL.isBool, DL.isStr, DL.isLst, DL.isTup, PinD, Bool.not_true, Bool.not_false, Bool.false_eq_true, if_true, if_false, true_and, and_true, OkAD, bodyEnds, pInt1, pInt2, fAbs, fMin, fMax, pIntOf, fIntOf, pLen, fLen, pSeq, fSeq, reduceIte, decide_eq_true_eq, ite_true, ite_false, Bool.and_eq_true, Bool.not_eq_true', roEq_int, Bool.true_xor, Bool.false_xor])
theorem isI_int {d : D} (h : isI d = some true) : ∃ i, d = .int i := by cases d <;> first | exact ⟨_, rfl⟩ | (simp [isI] at h; done)
theorem WFok {f : List D → Option (Except Er D)} {ds : List D} {Q : Sl → Prop} {E : Er → Prop} (h : WF f ds Q E) (hn : ∀ e, f ds ≠ some (.error e)) : ∃ d, f ds = some (.ok d) ∧ Q (.sh d) := by
  rcases WF_get h with h | ⟨e, h, _⟩
  · exact h
  · exact (hn e h).elim
theorem sat_law_is_integer : ∀ ds Q E', W_law_is_integer ds Q E' → p_law_is_integer (bodyEnds Q) (entry 1 ds) (fun e _ => E' e) := by
  intro ds Q E' h
  unfold p_law_is_integer
  unfold W_law_is_integer WF at h
  match ds, h with
  | [d], h =>
    cases d <;> simp only [isI, Option.map_some, Option.map_none] at h <;> first
      | exact h.elim
      | (walk_at "dl"; exact bodyR h)
theorem call_isint {d : D} {b : Bool} {Q : Sl → Prop} {E : Er → Prop} (hd : isI d = some b) (h : Q (.sh (.bl b))) : W_law_is_integer [d] Q E := WF_ok (d := .bl b) (by simp only []; rw [hd]; rfl) h
theorem sat_law_is_pair : ∀ ds Q E', W_law_is_pair ds Q E' → p_law_is_pair (bodyEnds Q) (entry 1 ds) (fun e _ => E' e) := by
  intro ds Q E' h
  obtain ⟨d, e, hq⟩ := WFok h (fun e z => by split at z <;> cases z)
  split at e
  · rename_i i j
    cases e
    unfold p_law_is_pair
    walk_at "dl"
    simp only [at0, at1]
    try walk_at "dl"
    exact call_isint (b := true) rfl (call_isint (b := true) rfl (bodyR hq))
  · cases e
theorem sat_law_number_fault : ∀ ds Q E', W_law_number_fault ds Q E' → p_law_number_fault (bodyEnds Q) (entry 3 ds) (fun e _ => E' e) := by
  intro ds Q E' h
  obtain ⟨d, e, hq⟩ := WFok h (fun e z => by
    split at z
    · rw [Option.map_eq_some_iff] at z; obtain ⟨_, _, z⟩ := z; cases z
    · cases z)
  split at e
  · rename_i d lo hi
    rw [Option.map_eq_some_iff] at e
    obtain ⟨z, e1, e2⟩ := e
    cases e2
    unfold p_law_number_fault
    cases d with
    | int i =>
      unfold fltN at e1
      simp only [] at e1
      split at e1 <;> cases e1 <;> walk_at "dl"
      · exact bodyR hq
      · split <;> split at hq <;> first | exact bodyR hq | omega
      · split <;> split at hq <;> first | exact bodyR hq | omega
      · rename_i a b
        by_cases h1 : i < a
        · rw [if_pos (.inl h1)] at hq; rw [if_pos h1]; exact bodyR hq
        · rw [if_neg h1]
          by_cases h2 : b < i
          · rw [if_pos (.inr h2)] at hq; rw [if_pos h2]; exact bodyR hq
          · rw [if_neg (by omega)] at hq; rw [if_neg h2]; exact bodyR hq
    | non => simp only [fltN, isI, Option.map_some, Option.some.injEq] at e1; subst e1; walk_at "dl"; exact bodyR hq
    | bl b => simp only [fltN, isI, Option.map_some, Option.some.injEq] at e1; subst e1; walk_at "dl"; exact bodyR hq
    | tup b => simp only [fltN, isI, Option.map_some, Option.some.injEq] at e1; subst e1; walk_at "dl"; exact bodyR hq
    | str b => simp only [fltN, isI, Option.map_some, Option.some.injEq] at e1; subst e1; walk_at "dl"; exact bodyR hq
    | lst b => simp only [fltN, isI, Option.map_some, Option.some.injEq] at e1; subst e1; walk_at "dl"; exact bodyR hq
    | dic a b => simp only [fltN, isI, Option.map_some, Option.some.injEq] at e1; subst e1; walk_at "dl"; exact bodyR hq
    | _ => simp only [fltN, isI, Option.map_none, reduceCtorEq] at e1
  · cases e
theorem call_nf {d lo hi : D} {z : Str} {Q : Sl → Prop} {E : Er → Prop} (hd : fltN d lo hi = some z) (h : Q (.sh (.str z))) : W_law_number_fault [d, lo, hi] Q E := WF_ok (d := .str z) (by simp only []; rw [hd]; rfl) h
theorem eq_str {neg : Bool} {x y : Str} {Q : Sl → Prop} (h1 : PyData.canLay0 (.str x) = true) (h2 : PyData.canLay0 (.str y) = true) (h : Q (.sh (.bl (xor neg (decide (x = y)))))) : roEq neg (.str x) (.str y) Q := roEq_str h1 h2 h
theorem sat_law_fraction_fault : ∀ ds Q E', W_law_fraction_fault ds Q E' → p_law_fraction_fault (bodyEnds Q) (entry 1 ds) (fun e _ => E' e) := by
  intro ds Q E' h
  obtain ⟨d, e, hq⟩ := WFok h (fun e z => by
    split at z
    · rw [Option.map_eq_some_iff] at z; obtain ⟨_, _, z⟩ := z; cases z
    · cases z)
  split at e
  · rename_i d
    rw [Option.map_eq_some_iff] at e
    obtain ⟨o, hf, e2⟩ := e
    cases e2
    unfold p_law_fraction_fault
    cases d with
    | tup l =>
      match l with
      | [] => simp only [frF, Option.some.injEq] at hf; subst hf; walk_at "dl"; exact bodyR hq
      | [a] => simp only [frF, Option.some.injEq] at hf; subst hf; walk_at "dl"; exact bodyR hq
      | a :: b :: c :: r =>
        simp only [frF, Option.some.injEq] at hf
        subst hf
        walk_at "dl"
        have : ¬ (((r.length + 1 + 1 + 1 : Nat) : Int) = 2) := by omega
        rw [if_pos (decide_eq_false this)]
        exact bodyR hq
      | [a, b] =>
        obtain ⟨sa, sb, hh⟩ := frF_tup hf
        walk_at "dl"
        simp only [Int.cast_ofNat_Int, at0, at1]
        rcases hh with ⟨i, j, rfl, rfl, hj, ho⟩ | ⟨i, j, rfl, rfl, hj, ho⟩ | ⟨h3, ho⟩ | ⟨h3, h4, ho⟩
        · refine call_nf (z := "") rfl (eq_str (by decide +kernel) (by decide +kernel) ?_)
          try walk_at "dl"
          refine call_nf (z := "") ?_ (bodyR (by subst ho; exact hq))
          simp only [fltN]; rw [if_neg (by omega)]
        · refine call_nf (z := "") rfl (eq_str (by decide +kernel) (by decide +kernel) ?_)
          try walk_at "dl"
          refine call_nf (z := "OutOfRange") ?_ (bodyR (by subst ho; exact hq))
          simp only [fltN]; rw [if_pos (by omega)]
        · refine call_nf (z := "WrongKind") ?_ (eq_str (by decide +kernel) (by decide +kernel) ?_)
          · cases a <;> first | rfl | (simp [isI] at h3; done)
          · try walk_at "dl"
            exact bodyR (by subst ho; exact hq)
        · obtain ⟨i, rfl⟩ := isI_int h3
          refine call_nf (z := "") rfl (eq_str (by decide +kernel) (by decide +kernel) ?_)
          try walk_at "dl"
          refine call_nf (z := "WrongKind") ?_ (bodyR (by subst ho; exact hq))
          cases b <;> first | rfl | (simp [isI] at h4; done)
    | non => simp only [frF, isI, Option.map_some, Option.some.injEq] at hf; subst hf; walk_at "dl"; exact bodyR hq
    | bl b => simp only [frF, isI, Option.map_some, Option.some.injEq] at hf; subst hf; walk_at "dl"; exact bodyR hq
    | int b => simp only [frF, isI, Option.map_some, Option.some.injEq] at hf; subst hf; walk_at "dl"; exact bodyR hq
    | str b => simp only [frF, isI, Option.map_some, Option.some.injEq] at hf; subst hf; walk_at "dl"; exact bodyR hq
    | lst b => simp only [frF, isI, Option.map_some, Option.some.injEq] at hf; subst hf; walk_at "dl"; exact bodyR hq
    | dic a b => simp only [frF, isI, Option.map_some, Option.some.injEq] at hf; subst hf; walk_at "dl"; exact bodyR hq
    | _ => simp only [frF, isI, Option.map_none, reduceCtorEq] at hf
  · cases e
end C
set_option Elab.async false
set_option maxRecDepth 100000
set_option maxHeartbeats 1000000
set_option linter.unusedVariables false
namespace C
open PySem PySem.Spec PyProof.Rows L2 NdefX DL
local macro_rules | `(tactic| walk_at "dl") => `(tactic| simp only [wSeq, wIf, wNext, wBreak, wCont, wRet, wRetN, wDrop, wSet, wTest, wAndB, wOrB, wNotB, wIsi, wVar, wC, wOp, wRaise, wCall, wCons, wNil, wFun, wPar, wTup, wNeg, wUn, wIfE, wAndV, wOrV, wNotV, wUnp2, wLst, wIxO, wLenO, wSetIx, wAppend, wDic0, wFor, wItemsL, wItemsS, wRng1, wRng2, wListRev, dgName, roAdd, roI, roI0, roB, roIx, roIsN, roF, roL, datas, List.map_cons, List.map_nil, entry, List.length_cons, List.length_nil, List.cons_append, List.nil_append, List.replicate, List.replicate_succ, List.replicate_zero, Nat.reduceAdd, Nat.reduceSub, Nat.zero_add,
  List.getElem?_cons_zero, List.getElem?_cons_succ, List.set_cons_zero, List.set_cons_succ, dat_sh, dat_ow, dat_dp, DL.isInt, DL.isBool, DL.isStr, DL.isLst, DL.isTup, PinD, Bool.not_true, Bool.not_false, Bool.false_eq_true, if_true, if_false, true_and, and_true, OkAD, bodyEnds, pInt1, pInt2, fAbs, fMin, fMax, pIntOf, fIntOf, pLen, fLen, pSeq, fSeq, reduceIte, decide_eq_true_eq, ite_true, ite_false, Bool.and_eq_true, Bool.not_eq_true', roEq_int, Bool.true_xor, Bool.false_xor])
theorem call_ff {d : D} {o : Option Str} {Q : Sl → Prop} {E : Er → Prop} (hd : frF d = some o) (h : Q (.sh (.str (strO o)))) : W_law_fraction_fault [d] Q E := WF_ok (d := .str (strO o)) (by simp only []; rw [hd]; rfl) h
theorem sat_law_first_fault : ∀ ds Q E', W_law_first_fault ds Q E' → p_law_first_fault (bodyEnds Q) (entry 2 ds) (fun e _ => E' e) := by
  intro ds Q E' h
  obtain ⟨d, e, hq⟩ := WFok h (fun e z => by
    split at z
    · rw [Option.map_eq_some_iff] at z; obtain ⟨_, _, z⟩ := z; cases z
    · cases z)
  split at e
  · rename_i l
    rw [Option.map_eq_some_iff] at e
    obtain ⟨o, hf, e2⟩ := e
    cases e2
    unfold p_law_first_fault
    walk_at "dl"
    refine forD_ind (fun ds ρ => firstF ds = some d ∧ ∃ x, ρ = [.sh (.lst l), x]) ?_ ?_ _ _ ⟨hf, _, rfl⟩
    · rintro ρ ⟨h1, x, rfl⟩
      cases h1
      try walk_at "dl"
      exact bodyR hq
    · rintro d ds ρ ⟨h1, x, rfl⟩ K hK
      unfold firstF at h1
      split at h1
      · cases ‹d :: ds = []›
      · rename_i n f r e
        cases e
        split at h1
        · rename_i hc
          try walk_at "dl"
          simp only [at0, at1]
          refine eq_str hc (by decide +kernel) ?_
          split at h1
          · rename_i hz
            subst hz
            try walk_at "dl"
            exact hK _ ⟨h1, _, rfl⟩
          · rename_i hz
            try walk_at "dl"
            simp only [hz, decide_false, if_true]
            cases h1
            exact bodyR hq
        · cases h1
      · cases h1
  · cases e
theorem odd_int {n : Nat} {i : Int} (h : Bd n i) : Odd n (.int i) := ⟨rfl, fun j e => by cases e; exact h, fun _ _ z => by cases z⟩
theorem odd_no {n : Nat} {d : D} (h : isI d = some false) (h2 : ∀ a b, d ≠ .tup [.int a, .int b]) : Odd n d := ⟨by rw [h]; rfl, fun j e => by subst e; simp [isI] at h, h2⟩
theorem cpow {i j : Int} (h : 0 ≤ j ∧ j ≤ 1000000 ∧ i.natAbs < 2 ^ 64 := by decide) : CPow i j := h
theorem sat_law_odd_number : ∀ ds Q E', W_law_odd_number ds Q E' → p_law_odd_number (bodyEnds Q) (entry 6 ds) (fun e _ => E' e) := by
  rintro ds Q E' ⟨⟨lo, hi, rfl, hlo, hhi⟩, h, _⟩
  have hq : ∀ d, Odd 210 d → pl 4 d = true → pd 3 d = true → Q (.sh d) := fun d hd h1 h2 => h _ ⟨d, rfl, hd, h1, h2⟩
  have odd1 : ∀ r : Int, 0 ≤ r → r < 8 → ∃ x, atD [D.non, .bl true, .bl false, .str "", .str "1", .lst [.int 0], .tup [.int 1], .dic [] []] r = some x ∧ ∃ y, Cv (Sl.sh x) y ∧ Q y := fun r h0 h1 => by
    obtain ⟨x, hx, e⟩ := atD_in (l := [D.non, .bl true, .bl false, .str "", .str "1", .lst [.int 0], .tup [.int 1], .dic [] []]) h0 (by simpa using h1)
    refine ⟨x, e, bodyR (hq _ (odd_no ?_ ?_) ?_ ?_)⟩ <;> simp only [List.mem_cons, List.not_mem_nil, or_false] at hx
    · rcases hx with rfl | rfl | rfl | rfl | rfl | rfl | rfl | rfl <;> rfl
    · rcases hx with rfl | rfl | rfl | rfl | rfl | rfl | rfl | rfl <;> exact fun _ _ z => by cases z
    · rcases hx with rfl | rfl | rfl | rfl | rfl | rfl | rfl | rfl <;> decide +kernel
    · rcases hx with rfl | rfl | rfl | rfl | rfl | rfl | rfl | rfl <;> decide +kernel
  have b40 : Bd 200 (10 ^ Int.toNat 40) := by
    show (10 ^ Int.toNat 40 : Int).natAbs < 2 ^ 200
    decide +kernel
  have odd2 : ∀ (r a b : Int), 8 ≤ r → r < 14 → Bd 200 a → Bd 200 b → ∃ x, atD [D.int (a - 1), .int (b + 1), .int (a - 10 ^ Int.toNat 40), .int (b + 10 ^ Int.toNat 40), .int a, .int b] (r - 8) = some x ∧ ∃ y, Cv (Sl.sh x) y ∧ Q y := fun r a b h0 h1 ha hb => by
    obtain ⟨x, hx, e⟩ := atD_in (l := [D.int (a - 1), .int (b + 1), .int (a - 10 ^ Int.toNat 40), .int (b + 10 ^ Int.toNat 40), .int a, .int b]) (i := r - 8) (by omega) (by simp only [List.length_cons, List.length_nil]; omega)
    simp only [List.mem_cons, List.not_mem_nil, or_false] at hx
    have hi : ∃ i, x = .int i := by rcases hx with rfl | rfl | rfl | rfl | rfl | rfl <;> exact ⟨_, rfl⟩
    refine ⟨x, e, bodyR (hq _ ?_ (by obtain ⟨i, rfl⟩ := hi; rfl) (by obtain ⟨i, rfl⟩ := hi; rfl))⟩
    have b1 : Bd 200 1 := by unfold Bd; omega
    rcases hx with rfl | rfl | rfl | rfl | rfl | rfl
    · exact odd_int (bd_mono (bd_add ha (bd_neg b1)) (by decide))
    · exact odd_int (bd_mono (bd_add hb b1) (by decide))
    · exact odd_int (bd_mono (bd_add ha (bd_neg b40)) (by decide))
    · exact odd_int (bd_mono (bd_add hb b40) (by decide))
    · exact odd_int (bd_mono ha (by decide))
    · exact odd_int (bd_mono hb (by decide))
  have z0 : Bd 200 0 := by unfold Bd; omega
  unfold p_law_odd_number
  walk_at "dl"
  rcases hlo with rfl | ⟨a, rfl, ha⟩ <;> rcases hhi with rfl | ⟨b, rfl, hb⟩ <;>
  · walk_at "dl"
    refine call_take (bd_le0 (n := 5) (by decide) (by decide)) fun r h0 h1 => ?_
    try walk_at "dl"
    by_cases hr : r < 8
    · rw [if_pos hr]; exact fun _ _ => odd1 r h0 hr
    · rw [if_neg hr]; exact ⟨cpow, cpow, fun _ => odd2 r _ _ (by omega) (by omega) (by assumption) (by assumption)⟩
def oddMenu : List D := [.non, .int 1, .str "1/2", .lst [.int 1, .int 2], .tup [], .tup [.int 1], .tup [.int 1, .int 2, .int 3], .tup [.bl true, .int 2], .tup [.int 1, .bl true], .tup [.str "1", .int 2], .tup [.int 1, .non], .tup [.non, .int 0],
  .tup [.int 1, .int 0], .tup [.int 1, .int (-2)], .tup [.int 0, .int 0], .tup [.int (-1), .int (-1)], .tup [.int (10 ^ Int.toNat 40), .int 0], .tup [.int 0, .int 1], .tup [.int (-6), .int 4],
  .tup [.str "1"], .tup [.non, .int 2, .int 3], .tup [.int 1, .bl true, .int 2], .tup [.int 1, .int 0, .int 3], .tup [.non], .tup [.int 1, .int 2, .str "3"], .dic [] []]
theorem oddMenu_ok : ∀ d ∈ oddMenu, OddF 134 d := by
  intro d hd
  unfold oddMenu at hd
  simp only [List.mem_cons, List.not_mem_nil, or_false] at hd
  have b40 : Bd 134 (10 ^ Int.toNat 40) := by
    show (10 ^ Int.toNat 40 : Int).natAbs < 2 ^ 134
    decide +kernel
  rcases hd with rfl | rfl | rfl | rfl | rfl | rfl | rfl | rfl | rfl | rfl | rfl | rfl | rfl | rfl | rfl | rfl | rfl | rfl | rfl | rfl | rfl | rfl | rfl | rfl | rfl | rfl <;>
    refine ⟨rfl, rfl, ?_⟩ <;> first
    | exact trivial
    | exact ⟨bd_lit, bd_lit⟩
    | exact ⟨b40, bd_lit⟩
theorem oddMenu_pl : ∀ d ∈ oddMenu, pl 5 d = true ∧ pd 3 d = true := by
  intro d hd
  unfold oddMenu at hd
  simp only [List.mem_cons, List.not_mem_nil, or_false] at hd
  rcases hd with rfl | rfl | rfl | rfl | rfl | rfl | rfl | rfl | rfl | rfl | rfl | rfl | rfl | rfl | rfl | rfl | rfl | rfl | rfl | rfl | rfl | rfl | rfl | rfl | rfl | rfl <;> decide +kernel
theorem sat_law_odd_fraction : ∀ ds Q E', W_law_odd_fraction ds Q E' → p_law_odd_fraction (bodyEnds Q) (entry 2 ds) (fun e _ => E' e) := by
  rintro ds Q E' ⟨rfl, h, _⟩
  have hq : ∀ d, OddF 134 d → pl 5 d = true ∧ pd 3 d = true → Q (.sh d) := fun d hd h2 => h _ ⟨d, rfl, hd, h2⟩
  have fin : ∀ r : Int, 0 ≤ r → r < 26 → ∃ x, atD oddMenu r = some x ∧ ∃ y, Cv (Sl.sh x) y ∧ Q y := fun r h0 h1 => by
    obtain ⟨x, hx, e⟩ := atD_in (l := oddMenu) h0 (by show r < ((26 : Nat) : Int); omega)
    exact ⟨x, e, bodyR (hq _ (oddMenu_ok x hx) (oddMenu_pl x hx))⟩
  unfold p_law_odd_fraction
  walk_at "dl"
  refine fun _ _ => ⟨cpow, fun _ => ⟨by decide, fun _ _ => ⟨by decide, fun _ => call_take (bd_le0 (n := 5) (by decide) (by decide)) fun r h0 h1 => ?_⟩⟩⟩
  try walk_at "dl"
  exact fin r h0 (by omega)
end C
set_option Elab.async false
set_option maxRecDepth 100000
set_option maxHeartbeats 1000000
set_option linter.unusedVariables false
namespace C
open PySem PySem.Spec PyProof.Rows L2 NdefX DL
local macro_rules | `(tactic| walk_at "dl") => `(tactic| simp only [wSeq, wIf, wNext, wBreak, wCont, wRet, wRetN, wDrop, wSet, wTest, wAndB, wOrB, wNotB, wIsi, wVar, wC, wOp, wRaise, wCall, wCons, wNil, wFun, wPar, wTup, wNeg, wUn, wIfE, wAndV, wOrV, wNotV, wUnp2, wLst, wIxO, wLenO, wSetIx, wAppend, wDic0, wFor, wItemsL, wItemsS, wRng1, wRng2, wListRev, dgName, roAdd, roI, roI0, roB, roIx, roIsN, roF, roL, datas, List.map_cons, List.map_nil, entry, List.length_cons, List.length_nil, List.cons_append, List.nil_append, List.replicate, List.replicate_succ, List.replicate_zero, Nat.reduceAdd, Nat.reduceSub, Nat.zero_add,
  List.getElem?_cons_zero, List.getElem?_cons_succ, List.set_cons_zero, List.set_cons_succ, dat_sh, dat_ow, dat_dp, DL.isInt, DL.isBool, DL.isStr, DL.isLst, DL.isTup, PinD, Bool.not_true, Bool.not_false, Bool.false_eq_true, if_true, if_false, true_and, and_true, OkAD, bodyEnds, pInt1, pInt2, fAbs, fMin, fMax, pIntOf, fIntOf, pLen, fLen, pSeq, fSeq, reduceIte, decide_eq_true_eq, ite_true, ite_false, Bool.and_eq_true, Bool.not_eq_true', roEq_int, Bool.true_xor, Bool.false_xor])
/-! ### what was caught -/
theorem wSeq_i {t u : DS} {D0 : DEn} {ρ : DEnv} {E : EC} (h : t { D0 with nx := fun ρ' => u D0 ρ' E } ρ E) : wSeq t u D0 ρ E := h
def accK (c : Str) (es : List Str) : List D := (es.filter fun e => c == e).map D.str
theorem accK_add {c e : Str} {es : List Str} : accK c (es ++ [e]) = if (c == e) = true then accK c es ++ [.str e] else accK c es := by
  unfold accK
  rw [List.filter_append, List.map_append]
  by_cases h : (c == e) = true
  · rw [if_pos h, List.filter_cons_of_pos h]; rfl
  · rw [if_neg h, List.filter_cons_of_neg h]; simp
theorem accK_len {c : Str} {es : List Str} : (accK c es).length ≤ es.length := by
  unfold accK
  rw [List.length_map]
  exact List.length_filter_le _ _
theorem kind_step {D0 : DEn} {E : EC} {c : Str} (k : Nat) (e : Str) {a : Option D} {pn : Addr × Obj} {p : Addr} {u : DS} {ρ : DEnv} (he : errs.contains c = true) (hn : (e == "ShadeError") = false) (hl : (errNames.take k).length < sizeLine) (h : u D0 [.sh (.exc c a pn.1 pn.2), .ow p (accK c (errNames.take (k + 1)))] E) (hk : errNames.take (k + 1) = errNames.take k ++ [e] := by rfl) (hρ : ρ = [.sh (.exc c a pn.1 pn.2), .ow p (accK c (errNames.take k))] := by rfl) :
    wSeq (wIf (wTest (wIsi (isCls errs e) [pn] (wVar 0))) (wSeq (wAppend 1 (wC (.str e))) wNext) wNext) u D0 ρ E := by
  subst hρ
  rw [hk, accK_add] at h
  walk_at "dl"
  unfold isCls
  simp only [he, if_true, hn, Bool.or_false, List.mem_singleton]
  refine ⟨trivial, ?_⟩
  by_cases hc : (c == e) = true
  · rw [if_pos hc] at h ⊢
    exact ⟨Nat.lt_of_le_of_lt accK_len hl, h⟩
  · rw [if_neg hc] at h ⊢
    exact h
theorem errN_cases {c : Str} (h : errNames.contains c = true) : c = "WrongKind" ∨ c = "WrongSize" ∨ c = "OutOfRange" ∨ c = "BadText" ∨ c = "NotATable" ∨ c = "Spent" ∨ c = "TooFewPlaces" ∨ c = "WrongPaper" ∨ c = "UnknownName" ∨ c = "NameTaken" ∨ c = "NothingToUndo" ∨ c = "BookFull" := by
  unfold errNames at h
  simpa using h
theorem sat_law_kinds (pn : Addr × Obj) : ∀ ds Q E', W_law_kinds pn ds Q E' → p_law_kinds pn (bodyEnds Q) (entry 2 ds) (fun e _ => E' e) := by
  rintro ds Q E' ⟨⟨c, a, rfl, hc⟩, h, _⟩
  have hq := h _ ⟨c, a, rfl, rfl⟩
  have he : errs.contains c = true := by
    rcases errN_cases hc with rfl | rfl | rfl | rfl | rfl | rfl | rfl | rfl | rfl | rfl | rfl | rfl <;> decide +kernel
  have fin : accK c (errNames.take 12) = [.str c] := by
    unfold accK
    have : (errNames.take 12).filter (fun e => c == e) = [c] := by
      rcases errN_cases hc with rfl | rfl | rfl | rfl | rfl | rfl | rfl | rfl | rfl | rfl | rfl | rfl <;> decide +kernel
    rw [this]
    rfl
  unfold p_law_kinds
  refine wSeq_i ?_
  show ∀ p, _
  intro p
  refine kind_step 0 "WrongKind" he rfl (by decide) ?_
  refine kind_step 1 "WrongSize" he rfl (by decide) ?_
  refine kind_step 2 "OutOfRange" he rfl (by decide) ?_
  refine kind_step 3 "BadText" he rfl (by decide) ?_
  refine kind_step 4 "NotATable" he rfl (by decide) ?_
  refine kind_step 5 "Spent" he rfl (by decide) ?_
  refine kind_step 6 "TooFewPlaces" he rfl (by decide) ?_
  refine kind_step 7 "WrongPaper" he rfl (by decide) ?_
  refine kind_step 8 "UnknownName" he rfl (by decide) ?_
  refine kind_step 9 "NameTaken" he rfl (by decide) ?_
  refine kind_step 10 "NothingToUndo" he rfl (by decide) ?_
  refine kind_step 11 "BookFull" he rfl (by decide) ?_
  rw [fin]
  walk_at "dl"
  exact bodyR hq
/-- one statement, what follows out of sight -/
theorem wSeq_k {t u : DS} {D0 : DEn} {ρ : DEnv} {E : EC} (h : ∀ N : DEnv → Prop, (∀ ρ', u D0 ρ' E → N ρ') → t { D0 with nx := N } ρ E) : wSeq t u D0 ρ E := h _ fun _ k => k
/-! ### euclid, bounded -/
/-- the pair after k turns -/
def Eu (y0 : Nat) (k x y : Nat) : Prop := (∃ m, k = 2 * m ∧ y * 2 ^ m ≤ y0) ∨ ∃ m, k = 2 * m + 1 ∧ x * 2 ^ m ≤ y0 ∧ y < x
theorem Eu.step {y0 k x y : Nat} (h : Eu y0 k x y) (hy : 0 < y) : Eu y0 (k + 1) y (x % y) := by
  rcases h with ⟨m, rfl, h⟩ | ⟨m, rfl, h, hl⟩
  · exact .inr ⟨m, rfl, h, Nat.mod_lt _ hy⟩
  · refine .inl ⟨m + 1, by omega, Nat.le_trans ?_ h⟩
    have h1 : x % y < y := Nat.mod_lt _ hy
    have h2 : y * (x / y) + x % y = x := Nat.div_add_mod x y
    have h3 : 1 ≤ x / y := (Nat.one_le_div_iff hy).mpr (by omega)
    have h4 : y * 1 ≤ y * (x / y) := Nat.mul_le_mul (Nat.le_refl _) h3
    have h5 : x % y * 2 ≤ x := by omega
    rw [Nat.pow_succ, Nat.mul_comm (2 ^ m) 2, ← Nat.mul_assoc]
    exact Nat.mul_le_mul h5 (Nat.le_refl _)
theorem Eu.last {y0 B x y : Nat} (hB : y0 < 2 ^ B) (h : Eu y0 (2 * B + 3) x y) : False := by
  rcases h with ⟨m, e, h⟩ | ⟨m, e, h, hl⟩
  · omega
  · have : m = B + 1 := by omega
    subst this
    have : 1 * 2 ^ (B + 1) ≤ x * 2 ^ (B + 1) := Nat.mul_le_mul (by omega) (Nat.le_refl _)
    have e2 : 2 ^ (B + 1) = 2 ^ B + 2 ^ B := by rw [Nat.pow_succ]; omega
    omega
theorem bits_lt (n : Nat) : n < 2 ^ (Builtin.Int.intBits (n : Int)) := by
  unfold Builtin.Int.intBits
  split
  · rename_i h; simp at h; subst h; decide
  · exact Nat.lt_log2_self
theorem sat_law_common : ∀ ds Q E', W_law_common ds Q E' → p_law_common (bodyEnds Q) (entry 4 ds) (fun e _ => E' e) := by
  rintro ds Q E' ⟨⟨a, b, rfl, hB⟩, h, _⟩
  have hq := h _ ⟨a, b, rfl, rfl⟩
  unfold p_law_common
  walk_at "dl"
  intro p
  simp only [at1]
  try walk_at "dl"
  have hb := bits_le (m := (b.natAbs : Int)) (by unfold Bd at *; omega)
  have hb2 := bits_lt b.natAbs
  generalize Builtin.Int.intBits (b.natAbs : Int) = B at hb hb2 ⊢
  have e0 : (2 * (B : Int) + 3).toNat = 2 * B + 3 := by omega
  rw [e0]
  refine ⟨cm_l (by decide), ⟨by omega, by omega⟩, forD_rng (fun k ρ => ∃ s t, ∃ x y : Nat, ρ = [.sh (.int a), .sh (.int b), s, t] ∧ (s = .sh (.lst [.int x, .int y]) ∨ ∃ p, s = .ow p [.int x, .int y]) ∧ Nat.gcd x y = Int.gcd a b ∧ Eu b.natAbs k x y) ?_ ?_ ⟨_, _, a.natAbs, b.natAbs, rfl, .inl rfl, rfl, .inl ⟨0, rfl, by omega⟩⟩⟩
  · rintro ρ ⟨s, t, x, y, rfl, hs, hg, he⟩
    exact (he.last hb2).elim
  · rintro k ρ hk ⟨s, t, x, y, rfl, hs, hg, he⟩ K hK
    simp only [dgName]
    rcases hs with rfl | ⟨p, rfl⟩ <;>
    · refine wSeq_k fun N hN => ?_
      try walk_at "dl"
      simp only [at0, at1]
      try walk_at "dl"
      by_cases hy : (y : Int) = 0
      · rw [if_pos hy]
        have : y = 0 := by omega
        subst this
        rw [Nat.gcd_zero_right] at hg
        subst hg
        try walk_at "dl"
        exact bodyR hq
      · rw [if_neg hy]
        refine hN _ ?_
        try walk_at "dl"
        simp only [at0, at1]
        try walk_at "dl"
        refine ⟨cnz hy, fun p2 => hK _ ⟨_, _, y, x % y, rfl, .inr ⟨p2, ?_⟩, ?_, he.step (by omega)⟩⟩
        · rw [Int.fmod_eq_emod_of_nonneg _ (by omega)]; rfl
        · rw [← hg, Nat.gcd_comm x y, Nat.gcd_rec y x, Nat.gcd_comm]
theorem call_common {a b : Int} {Q : Sl → Prop} {E : Er → Prop} (hB : Bd 100000 b) (h : Q (.sh (.int (Int.gcd a b)))) : W_law_common [.int a, .int b] Q E :=
  ⟨⟨a, b, rfl, hB⟩, fun z ⟨a', b', e, ez⟩ => by cases e; rw [ez]; exact h, fun _ z => z.elim⟩
theorem call_pair {a b : Int} {Q : Sl → Prop} {E : Er → Prop} (h : Q (.sh (.bl true))) : W_law_is_pair [.tup [.int a, .int b]] Q E := WF_ok (d := .bl true) rfl h
theorem sat_law_is_ratio_of : ∀ ds Q E', W_law_is_ratio_of ds Q E' → p_law_is_ratio_of (bodyEnds Q) (entry 3 ds) (fun e _ => E' e) := by
  rintro ds Q E' ⟨⟨r, n, m, rfl, hm, hr, hb, h1, h2⟩, h, _⟩
  have hq := h _ rfl
  unfold p_law_is_ratio_of
  walk_at "dl"
  simp only [ratD]
  refine call_pair ?_
  try walk_at "dl"
  simp only [at0, at1]
  try walk_at "dl"
  have := r.den_pos
  rw [if_neg (show ¬ ((r.den : Int) < 1) by omega)]
  have e := ratio_cross n m hm
  rw [← hr] at e
  have eg : (Int.gcd r.num (r.den : Int) : Int) = 1 := by
    have := r.reduced
    show ((Nat.gcd r.num.natAbs r.den : Nat) : Int) = 1
    rw [Nat.Coprime] at this
    omega
  refine ⟨cmul_of hb.1 h2 (by decide) (by decide) (by decide), cmul_of h1 (bd_nat hb.2) (by decide) (by decide) (by decide), ?_⟩
  rw [decide_eq_true e]
  refine call_common (bd_mono (bd_nat hb.2) (by decide)) ?_
  rw [eg]
  walk_at "dl"
  exact bodyR hq
end C
set_option Elab.async false
set_option maxRecDepth 100000
set_option maxHeartbeats 1000000
set_option linter.unusedVariables false
namespace C
open PySem PySem.Spec PyProof.Rows L2 NdefX DL
local macro_rules | `(tactic| walk_at "dl") => `(tactic| simp only [wSeq, wIf, wNext, wBreak, wCont, wRet, wRetN, wDrop, wSet, wTest, wAndB, wOrB, wNotB, wIsi, wVar, wC, wOp, wRaise, wCall, wCons, wNil, wFun, wPar, wTup, wNeg, wUn, wIfE, wAndV, wOrV, wNotV, wUnp2, wLst, wIxO, wLenO, wSetIx, wAppend, wDic0, wFor, wItemsL, wItemsS, wRng1, wRng2, wListRev, dgName, roAdd, roI, roI0, roB, roIx, roIsN, roF, roL, datas, List.map_cons, List.map_nil, entry, List.length_cons, List.length_nil, List.cons_append, List.nil_append, List.replicate, List.replicate_succ, List.replicate_zero, Nat.reduceAdd, Nat.reduceSub, Nat.zero_add,
  List.getElem?_cons_zero, List.getElem?_cons_succ, List.set_cons_zero, List.set_cons_succ, dat_sh, dat_ow, dat_dp, DL.isInt, DL.isBool, DL.isStr, DL.isLst, DL.isTup, PinD, Bool.not_true, Bool.not_false, Bool.false_eq_true, if_true, if_false, true_and, and_true, OkAD, bodyEnds, pInt1, pInt2, fAbs, fMin, fMax, pIntOf, fIntOf, pLen, fLen, pSeq, fSeq, reduceIte, decide_eq_true_eq, ite_true, ite_false, Bool.and_eq_true, Bool.not_eq_true', roEq_int, Bool.true_xor, Bool.false_xor])
/-! ### the store's draw -/
theorem sto_law_take : ∀ ds Q E, W_law_take ds Q E → ∃ j, ds = [.sto, .int j] := fun ds Q E h => by obtain ⟨⟨m, e, _⟩, _⟩ := h; exact ⟨m, e⟩
theorem call_wide {c n m : Int} {Q : Sl → Prop} {E : Er → Prop} (hm : 1 ≤ m) (hB : Bd 100000 m) (h : ∀ r, 0 ≤ r → r < m → Q (.sh (.int r))) : W_law_wide [.int c, .int n, .int m] Q E :=
  ⟨⟨c, n, m, rfl, hm, hB⟩, fun z ⟨r, e, c', n', m', em, h1, h2⟩ => by cases em; rw [e]; exact h r h1 h2, fun _ z => z.elim⟩
theorem endS {s : Addr} {ns : List Int} {Q : Sl → Prop} {x : Sl} {ρ : DEnv} {i h m c : Int} (q : Q x) (e : ρ[0]? = some (.ow s (stoD ns i h m c)) := by rfl) (h1 : 0 ≤ i) (h2 : 0 ≤ h) : (bodyEndsS s ns Q).rt x ρ := ⟨bodyR q, i, h, m, c, e, h1, h2⟩
theorem atI_in {l : List Int} {i : Int} (h0 : 0 ≤ i) (h : i < l.length) : ∃ x, atI l i = some x := by
  have hn : i.toNat < l.length := by omega
  refine ⟨l[i.toNat], ?_⟩
  unfold atI ixN
  rw [if_pos (by omega), if_pos (by omega)]
  exact List.getElem?_eq_getElem hn
theorem g0 {a b c d e : D} {P : D → Prop} : (∃ z, atD [a, b, c, d, e] 0 = some z ∧ P z) = P a := propext ⟨fun ⟨z, e, h⟩ => by cases e; exact h, fun h => ⟨_, rfl, h⟩⟩
theorem s0 {P : Nat → Prop} : (∃ j, ixN 5 0 = some j ∧ P j) = P 0 := propext ⟨fun ⟨z, e, h⟩ => by cases e; exact h, fun h => ⟨_, rfl, h⟩⟩
theorem g1 {a b c d e : D} {P : D → Prop} : (∃ z, atD [a, b, c, d, e] 1 = some z ∧ P z) = P b := propext ⟨fun ⟨z, e, h⟩ => by cases e; exact h, fun h => ⟨_, rfl, h⟩⟩
theorem s1 {P : Nat → Prop} : (∃ j, ixN 5 1 = some j ∧ P j) = P 1 := propext ⟨fun ⟨z, e, h⟩ => by cases e; exact h, fun h => ⟨_, rfl, h⟩⟩
theorem g2 {a b c d e : D} {P : D → Prop} : (∃ z, atD [a, b, c, d, e] 2 = some z ∧ P z) = P c := propext ⟨fun ⟨z, e, h⟩ => by cases e; exact h, fun h => ⟨_, rfl, h⟩⟩
theorem s2 {P : Nat → Prop} : (∃ j, ixN 5 2 = some j ∧ P j) = P 2 := propext ⟨fun ⟨z, e, h⟩ => by cases e; exact h, fun h => ⟨_, rfl, h⟩⟩
theorem g3 {a b c d e : D} {P : D → Prop} : (∃ z, atD [a, b, c, d, e] 3 = some z ∧ P z) = P d := propext ⟨fun ⟨z, e, h⟩ => by cases e; exact h, fun h => ⟨_, rfl, h⟩⟩
theorem s3 {P : Nat → Prop} : (∃ j, ixN 5 3 = some j ∧ P j) = P 3 := propext ⟨fun ⟨z, e, h⟩ => by cases e; exact h, fun h => ⟨_, rfl, h⟩⟩
theorem g4 {a b c d e : D} {P : D → Prop} : (∃ z, atD [a, b, c, d, e] 4 = some z ∧ P z) = P e := propext ⟨fun ⟨z, e, h⟩ => by cases e; exact h, fun h => ⟨_, rfl, h⟩⟩
theorem s4 {P : Nat → Prop} : (∃ j, ixN 5 4 = some j ∧ P j) = P 4 := propext ⟨fun ⟨z, e, h⟩ => by cases e; exact h, fun h => ⟨_, rfl, h⟩⟩
theorem sat_law_take : ∀ (j : Int) Q E' so ns i h m c, W_law_take [.sto, .int j] Q E' → 0 ≤ i → 0 ≤ h → p_law_take (bodyEndsS so ns Q) (.ow so (stoD ns i h m c) :: .sh (.int j) :: List.replicate 2 .un) noE := by
  intro j Q E' so ns i hv m c ⟨⟨j', e, hB⟩, h, _⟩ hi hh
  cases e
  have hq : ∀ r, 0 ≤ r → (r < j ∨ r = 0) → Q (.sh (.int r)) := fun r h1 h2 => h _ ⟨r, rfl, j, rfl, h1, h2⟩
  unfold p_law_take stoD
  refine wSeq_k fun N1 hN1 => ?_
  walk_at "dl"
  by_cases h2 : j < 2
  · rw [if_pos h2]; exact endS (hq 0 (by decide) (.inr rfl)) rfl hi hh
  rw [if_neg h2]
  refine hN1 _ ?_
  refine wSeq_k fun N2 hN2 => ?_
  walk_at "dl"
  simp only [g4, s4, List.set_cons_succ, List.set_cons_zero]
  refine hN2 _ ?_
  refine wSeq_k fun N3 hN3 => ?_
  have rest : ∀ i hv c x2, 0 ≤ i → 0 ≤ hv → N3 [.ow so [.scr ns, .int i, .int hv, .int m, .int c], .sh (.int j), x2, .un] := fun i hv c x2 hi hh => by
    refine hN3 _ ?_
    refine wSeq_k fun N4 hN4 => ?_
    walk_at "dl"
    simp only [g2, g3, g4]
    by_cases hp : 0 < hv
    · rw [if_pos hp]
      refine ⟨trivial, cnz (by omega), trivial, ⟨by omega, (bd_log (by decide) (bd_mono hB (by decide)))⟩, ?_⟩
      simp only [s2, List.set_cons_succ, List.set_cons_zero]
      have f1 := fm (i := hv) (m := j) (by omega)
      refine endS (hq _ f1.1 (.inl f1.2)) rfl hi ?_
      rw [Int.fdiv_eq_ediv_of_nonneg _ (by omega)]
      exact Int.ediv_nonneg hh (by omega)
    · rw [if_neg hp]
      refine hN4 _ ?_
      walk_at "dl"
      simp only [g3, g4]
      exact call_wide (by omega) (bd_mono hB (by decide)) fun r r0 r1 => endS (hq r r0 (.inl r1)) rfl hi hh
  walk_at "dl"
  simp only [g0, g1, g2, List.set_cons_succ, List.set_cons_zero]
  by_cases hz : hv = 0
  · by_cases hl : i < (ns.length : Int)
    · simp only [hz, hl]
      try walk_at "dl"
      simp only [s1, s2, g4, List.set_cons_succ, List.set_cons_zero, List.length_cons, List.length_nil, Nat.reduceAdd, Nat.zero_add]
      obtain ⟨x, hx⟩ := atI_in hi hl
      refine ⟨x, hx, cpow, ?_⟩
      by_cases h18 : x < 10 ^ Int.toNat 18
      · rw [if_pos h18]
        exact call_wide (by omega) (bd_mono hB (by decide)) fun r r0 r1 => endS (hq r r0 (.inl r1)) rfl (by omega) (by decide)
      · rw [if_neg h18]
        have : (10 : Int) ^ Int.toNat 18 = 1000000000000000000 := by decide +kernel
        exact rest _ _ _ _ (by omega) (by omega)
    · simp only [hz, hl]
      try walk_at "dl"
      exact rest _ _ _ _ hi (by decide)
  · rw [roEq_int, decide_eq_false hz]
    try walk_at "dl"
    exact rest _ _ _ _ hi hh
/-! ### two equal things -/
theorem call_same {n : Nat} {d : D} {Q : Sl → Prop} {E : Er → Prop} (h : pl n d = true) (q : Q (.sh (.bl true))) : W_law_same n [d, d] Q E := ⟨d, rfl, h, q⟩
theorem at_same {l : List D} {k : Nat} (h : k < l.length) : ∃ x, x ∈ l ∧ atD l k = some x := atD_in (by omega) (by omega)
theorem sat_law_same (n : Nat) : ∀ ds Q E', W_law_same (n + 1) ds Q E' → p_law_same n (bodyEnds Q) (entry 3 ds) (fun e _ => E' e) := by
  rintro ds Q E' ⟨d, rfl, hd, hq⟩
  unfold p_law_same
  cases d with
  | non => walk_at "dl"; exact bodyR hq
  | bl b =>
    walk_at "dl"
    refine ⟨.bool b, .bool b, rfl, rfl, rfl, rfl, ?_⟩
    have : PyData.eqv (.bool b) (.bool b) = true := by cases b <;> rfl
    rw [this]
    exact bodyR hq
  | int i => walk_at "dl"; exact bodyR hq
  | str z =>
    walk_at "dl"
    refine eq_str hd hd ?_
    rw [decide_eq_true rfl]
    exact bodyR hq
  | lst l =>
    have h1 : (decide (l.length ≤ 100000) && l.all (pl n)) = true := hd
    simp only [Bool.and_eq_true, decide_eq_true_eq, List.all_eq_true] at h1
    obtain ⟨h1, h2⟩ := h1
    walk_at "dl"
    simp only [decide_true, Bool.true_eq_false, if_false]
    have e0 : ((l.length : Nat) : Int).toNat = l.length := rfl
    rw [e0]
    refine ⟨⟨by omega, by omega⟩, forD_rng (fun k ρ => ∃ s, ρ = [.sh (.lst l), .sh (.lst l), s]) ?_ ?_ ⟨_, rfl⟩⟩
    · rintro ρ ⟨s, rfl⟩
      exact bodyR hq
    · rintro k ρ hk ⟨s, rfl⟩ K hK
      simp only [dgName]
      obtain ⟨x, hx, e⟩ := at_same hk
      try walk_at "dl"
      refine ⟨x, e, x, e, call_same (h2 x hx) ?_⟩
      try walk_at "dl"
      exact hK _ ⟨_, rfl⟩
  | tup l =>
    have h1 : (decide (l.length ≤ 100000) && l.all (pl n)) = true := hd
    simp only [Bool.and_eq_true, decide_eq_true_eq, List.all_eq_true] at h1
    obtain ⟨h1, h2⟩ := h1
    walk_at "dl"
    simp only [decide_true, Bool.true_eq_false, if_false]
    have e0 : ((l.length : Nat) : Int).toNat = l.length := rfl
    rw [e0]
    refine ⟨⟨by omega, by omega⟩, forD_rng (fun k ρ => ∃ s, ρ = [.sh (.tup l), .sh (.tup l), s]) ?_ ?_ ⟨_, rfl⟩⟩
    · rintro ρ ⟨s, rfl⟩
      exact bodyR hq
    · rintro k ρ hk ⟨s, rfl⟩ K hK
      simp only [dgName]
      obtain ⟨x, hx, e⟩ := at_same hk
      try walk_at "dl"
      refine ⟨x, e, x, e, call_same (h2 x hx) ?_⟩
      try walk_at "dl"
      exact hK _ ⟨_, rfl⟩
  | dic ks es =>
    cases ks with
    | nil => cases es with
      | nil =>
        walk_at "dl"
        simp only [decide_true, Bool.true_eq_false, if_false]
        exact ⟨⟨by decide, by decide⟩, bodyR hq⟩
      | cons _ _ => cases hd
    | cons _ _ => cases hd
  | _ => cases hd
theorem sat_law_store : ∀ ds Q E', W_law_store ds Q E' → p_law_store (bodyEnds Q) (entry 3 ds) (fun e _ => E' e) := by
  rintro ds Q E' ⟨⟨ns, rfl⟩, h, _⟩
  unfold p_law_store
  walk_at "dl"
  refine forD_ind (fun ds ρ => ∃ l m t, ds = l.map D.int ∧ ρ = [.sh (.scr ns), .sh (.int m), t]) ?_ ?_ _ _ ⟨ns, _, _, rfl, rfl⟩
  · rintro ρ ⟨l, m, t, _, rfl⟩
    try walk_at "dl"
    exact fun _ p => bodyR (h _ ⟨ns, p, m, rfl, rfl⟩)
  · rintro d ds ρ ⟨l, m, t, e, rfl⟩ K hK
    cases l with
    | nil => cases e
    | cons i l =>
      cases e
      try walk_at "dl"
      exact ⟨cm_r (by decide), cnz, cnz, hK _ ⟨l, _, _, rfl, rfl⟩⟩
end C
set_option Elab.async false
set_option maxRecDepth 100000
set_option maxHeartbeats 1000000
set_option linter.unusedVariables false
namespace C
open PySem PySem.Spec PyProof.Rows L2 NdefX DL
local macro_rules | `(tactic| walk_at "dl") => `(tactic| simp only [wSeq, wLc, wTrue, wRaise0, wRaiseL, wSplit, wJoin, wFs, wSlS1, wSlS2, wAug, wItemsC, wEnum, pStr, fStr, pIntS, fIntS, roInS, orF, NoExc, dgTwo, wItemsT, wSlS0, wIsdig, roMulS, roInL, wIndexS, wSum, pSum, fSum, wFld, wGet, wMeth, wOwn2, wOwnI, wOwn1, wOwnLen, wOwnStr, wRevT, wZip, wItemsLT, wTupD, wLstD, wMv, isOwn, insOf, iStm, iFld, iEnd, pSumT, fSumT, wNever, tb, eq_self, exists_eq_left', Option.some.injEq,  wIf, wNext, wBreak, wCont, wRet, wRetN, wDrop, wSet, wTest, wAndB, wOrB, wNotB, wIsi, wVar, wC, wOp, wRaise, wCall, wCons, wNil, wFun, wPar, wTup, wNeg, wUn, wIfE, wAndV, wOrV, wNotV, wUnp2, wLst, wIxO, wLenO, wSetIx, wAppend, wDic0, wFor, wItemsL, wItemsS, wRng1, wRng2, wListRev, dgName, roAdd, roI, roI0, roB, roIx, roIsN, roF, roL, datas, List.map_cons, List.map_nil, entry, List.length_cons, List.length_nil, List.cons_append, List.nil_append, List.replicate, List.replicate_succ, List.replicate_zero, Nat.reduceAdd, Nat.reduceSub, Nat.zero_add,
  List.getElem?_cons_zero, List.getElem?_cons_succ, List.set_cons_zero, List.set_cons_succ, dat_sh, dat_ow, dat_dp, DL.isInt, DL.isBool, DL.isStr, DL.isLst, DL.isTup, PinD, Bool.not_true, Bool.not_false, Bool.false_eq_true, if_true, if_false, true_and, and_true, OkAD, bodyEnds, pInt1, pInt2, fAbs, fMin, fMax, pIntOf, fIntOf, pLen, fLen, pSeq, fSeq, reduceIte, decide_eq_true_eq, ite_true, ite_false, Bool.and_eq_true, Bool.not_eq_true', roEq_int, Bool.true_xor, Bool.false_xor, Bool.true_eq_false])
abbrev bt (x p : Nat) : Nat := x / 2 ^ p % 2
theorem lcD_map {α : Type} {i : Nat} {wt : DT Bool} {we : DT Sl} {ρ : DEnv} {R : List D → DEnv → Prop} (item : α → D) (f : α → Bool) (g : α → D) : ∀ (l : List α) (acc : List D),
    (∀ a ∈ l, ∀ (Q : Bool → DEnv → Prop) (E : EC), Q (f a) (ρ.set i (.sh (item a))) → wt (ρ.set i (.sh (item a))) Q E) →
    (∀ a ∈ l, f a = true → ∀ (Q : Sl → DEnv → Prop) (E : EC), Q (.sh (g a)) (ρ.set i (.sh (item a))) → we (ρ.set i (.sh (item a))) Q E) →
    ρ.set i .un = ρ → acc.length + l.length ≤ 100000 → R (acc ++ (l.filter f).map g) ρ → lcD i wt we R (l.map item) acc ρ
  | [], acc, _, _, _, _, h => by rw [List.filter_nil, List.map_nil, List.append_nil] at h; exact h
  | a :: l, acc, ht, he, hu, hl, h => by
    have l2 : acc.length + (l.length + 1) ≤ 100000 := hl
    rw [List.map_cons]
    unfold lcD
    refine ht a List.mem_cons_self _ _ ?_
    cases hf : f a with
    | false =>
      rw [if_neg Bool.false_ne_true, List.set_set, hu]
      rw [List.filter_cons_of_neg (by rw [hf]; exact Bool.false_ne_true)] at h
      exact lcD_map item f g l acc (fun b hb => ht b (List.mem_cons_of_mem _ hb)) (fun b hb => he b (List.mem_cons_of_mem _ hb)) hu (by omega) h
    | true =>
      rw [if_pos rfl]
      refine he a List.mem_cons_self hf _ _ ⟨by rw [sizeLine_eq]; omega, ?_⟩
      rw [List.set_set, hu, dat_sh]
      refine lcD_map item f g l (acc ++ [g a]) (fun b hb => ht b (List.mem_cons_of_mem _ hb)) (fun b hb => he b (List.mem_cons_of_mem _ hb)) hu (by rw [List.length_append]; simp only [List.length_cons, List.length_nil]; omega) ?_
      rw [List.filter_cons_of_pos hf, List.map_cons] at h
      rw [List.append_assoc]
      exact h
theorem lcD_all {α : Type} {i : Nat} {we : DT Sl} {ρ : DEnv} {R : List D → DEnv → Prop} (item : α → D) (g : α → D) (l : List α)
    (he : ∀ a ∈ l, ∀ (Q : Sl → DEnv → Prop) (E : EC), Q (.sh (g a)) (ρ.set i (.sh (item a))) → we (ρ.set i (.sh (item a))) Q E) (hu : ρ.set i .un = ρ) (hl : l.length ≤ 100000) (h : R (l.map g) ρ) : lcD i wTrue we R (l.map item) [] ρ :=
  lcD_map item (fun _ => true) g l [] (fun _ _ _ _ q => q) (fun a ha _ => he a ha) hu (by simpa using hl) (by rw [List.nil_append, List.filter_eq_self.mpr (fun _ _ => rfl)]; exact h)
theorem rangeD_map (n : Nat) : rangeD 0 n = (List.range n).map fun (k : Nat) => D.int k := by
  unfold rangeD
  refine List.map_congr_left fun k _ => ?_
  rw [Int.zero_add]
theorem bit_d (m p : Nat) : Builtin.bitAnd ((m : Int) / 2 ^ p) 1 = ((bt m p : Nat) : Int) := by
  have h := Bits.bit_at (x := (m : Int)) p
  rw [Int.fdiv_eq_ediv_of_nonneg _ (Int.le_of_lt (Int.pow_pos (by decide)))] at h
  rw [h]
  show (m : Int) / 2 ^ p % 2 = ((m / 2 ^ p % 2 : Nat) : Int)
  rw [Int.natCast_emod, Int.natCast_ediv, Int.natCast_pow]
  rfl
theorem nD_len (l : List Nat) : (nD l).length = l.length := by unfold nD; rw [List.length_map]
theorem forD_idx {g : DG} {b : DS} {N : DEn} {E : EC} (L : List D) (J : Nat → DEnv → Prop) (hend : ∀ ρ, J L.length ρ → N.nx ρ)
    (hstep : ∀ k d ρ, L[k]? = some d → J k ρ → ∀ K : DEnv → Prop, (∀ ρ2, J (k + 1) ρ2 → K ρ2) → g d ρ (fun ρ' => b { N with nx := K, ct := K, bk := N.nx } ρ' E)) {ρ : DEnv} (h0 : J 0 ρ) : forD g b N E L ρ := by
  refine forD_ind (fun ds ρ => ∃ k, ds = L.drop k ∧ k ≤ L.length ∧ J k ρ) ?_ ?_ _ _ ⟨0, rfl, Nat.zero_le _, h0⟩
  · rintro ρ ⟨k, e, hk, h⟩
    have : k = L.length := by
      have := congrArg List.length e
      rw [List.length_drop, List.length_nil] at this
      omega
    subst this
    exact hend ρ h
  · rintro d ds ρ ⟨k, e, hk, h⟩ K hK
    have hl : k < L.length := by
      have := congrArg List.length e
      rw [List.length_drop, List.length_cons] at this
      omega
    rw [List.drop_eq_getElem_cons hl] at e
    injection e with e1 e2
    refine hstep k d ρ (by rw [e1]; exact List.getElem?_eq_getElem hl) h K fun ρ2 h2 => hK ρ2 ⟨k + 1, e2, hl, h2⟩
theorem wd_small {n : Nat} (h : n ≤ 1000) : WdI (n : Int) := by
  have : n < 2 ^ 10 := by omega
  exact Nat.lt_of_lt_of_le this (by decide +kernel)
theorem join_nums {i : Nat} {z : Str} {l : List Nat} {ρ : DEnv} {Q : Str → Prop} (hl : ∀ n ∈ l, n ≤ 1000) (hs : ((nS l).map (·.length)).sum + (nS l).length * z.length ≤ 16777216) (h0 : l.length ≤ 1000) (hi : ρ[i]? = some .un) {we : DT Sl} (hwe : we = wStr (wCons (wVar i) wNil)) (q : Q (Txt.join z (nS l))) :
    lcD i wTrue we (fun acc ρ2 => ∃ ys : List Str, acc = ys.map D.str ∧ (ys.map (·.length)).sum + ys.length * z.length ≤ 16777216 ∧ Q (Txt.join z ys)) (l.map fun (n : Nat) => D.int n) [] ρ := by
  subst hwe
  have hil : i < ρ.length := (List.getElem?_eq_some_iff.mp hi).1
  have hun : ρ.set i .un = ρ := by
    have e := (List.getElem?_eq_some_iff.mp hi).2
    conv => lhs; rw [← e]
    exact List.set_getElem_self hil
  refine lcD_all (fun (n : Nat) => D.int n) (fun (n : Nat) => D.str (intS n)) l (fun n hn Q0 E0 q0 => ?_) hun (by omega) ⟨nS l, ?_, hs, q⟩
  · have e : (ρ.set i (.sh (.int n)))[i]? = some (.sh (.int n)) := by rw [List.getElem?_set_self hil]
    show wStr (wCons (wVar i) wNil) _ Q0 E0
    unfold wStr wFun wCons wVar wNil
    rw [e]
    simp only [roF, datas, List.map_cons, List.map_nil, pStr, fStr, dat_sh, List.set_set]
    exact ⟨wd_small (hl n hn), q0⟩
  · unfold nS
    rw [List.map_map]
    rfl
theorem pow_i (w : Nat) : ((2 ^ w : Nat) : Int) = 2 ^ w := Int.natCast_pow 2 w
theorem call_between {d : D} {lo hi : Int} {z : Str} {Q : Sl → Prop} {E : Er → Prop} (hz : z.length ≤ 1000) (h1 : isI d = some false → E (Er1 "WrongKind" z)) (h2 : ∀ i, d = .int i → betw i lo hi = false → E (Er1 "OutOfRange" z)) (h3 : ∀ i, d = .int i → betw i lo hi = true → Q (.sh .non)) (h : (isI d).isSome = true) : W_check_between [d, .int lo, .int hi, .str z] Q E := by
  unfold W_check_between WF f_check_between
  simp only []
  rw [if_pos hz]
  cases d with
  | int i =>
    cases hb : betw i lo hi with
    | true => simp only [hb, if_true]; exact h3 i rfl hb
    | false => simp only [hb, Bool.false_eq_true, if_false]; exact h2 i rfl hb
  | non => exact h1 rfl
  | bl b => exact h1 rfl
  | str b => exact h1 rfl
  | lst b => exact h1 rfl
  | tup b => exact h1 rfl
  | dic a b => exact h1 rfl
  | _ => cases h
theorem between_get {d : D} {lo hi : Int} {z : Str} {Q : Sl → Prop} {E : Er → Prop} (h : WF f_check_between [d, .int lo, .int hi, .str z] Q E) : z.length ≤ 1000 ∧ (isI d).isSome = true ∧ (isI d = some false → E (Er1 "WrongKind" z)) ∧ (∀ i, d = .int i → betw i lo hi = false → E (Er1 "OutOfRange" z)) ∧ ∀ i, d = .int i → betw i lo hi = true → Q (.sh .non) := by
  unfold WF f_check_between at h
  simp only [] at h
  by_cases hz : z.length ≤ 1000
  · rw [if_pos hz] at h
    refine ⟨hz, ?_⟩
    cases d with
    | int i =>
      cases hb : betw i lo hi with
      | true =>
        simp only [hb, if_true] at h
        exact ⟨rfl, (fun z => by cases z), (fun j e b => by cases e; rw [hb] at b; cases b), (fun j e _ => h)⟩
      | false =>
        simp only [hb, Bool.false_eq_true, if_false] at h
        exact ⟨rfl, (fun z => by cases z), (fun j e b => h), (fun j e b => by cases e; rw [hb] at b; cases b)⟩
    | non => exact ⟨rfl, fun _ => h, (fun j e => by cases e), (fun j e => by cases e)⟩
    | bl b => exact ⟨rfl, fun _ => h, (fun j e => by cases e), (fun j e => by cases e)⟩
    | str b => exact ⟨rfl, fun _ => h, (fun j e => by cases e), (fun j e => by cases e)⟩
    | lst b => exact ⟨rfl, fun _ => h, (fun j e => by cases e), (fun j e => by cases e)⟩
    | tup b => exact ⟨rfl, fun _ => h, (fun j e => by cases e), (fun j e => by cases e)⟩
    | dic a b => exact ⟨rfl, fun _ => h, (fun j e => by cases e), (fun j e => by cases e)⟩
    | _ => exact h.elim
  · rw [if_neg hz] at h
    exact h.elim
abbrev tl (x : Str) : List Nat := x.cps.toList
theorem tl_len (x : Str) : x.length = (tl x).length := TL.len_tl x
theorem lay_of {z : Str} (h : ((tl z).all fun c => decide (c < 0x110000)) = true) : PyData.canLay0 (.str z) = true := by
  show z.cps.all _ = true
  rw [← Array.all_toList]
  exact h
theorem tl_nat (n : Nat) : tl (intS n) = TL.numL n := TL.tl_num n
theorem tl_app (x y : Str) : tl (x ++ y) = tl x ++ tl y := by
  show (x.cps ++ y.cps).toList = _
  rw [Array.toList_append]
theorem okT_T : okT "Table" = true := rfl
theorem lk_wide {a b : D} : (List.zip [("wide" : Str), "held"] [a, b]).lookup ("wide" : Str) = some a := rfl
theorem lk_held {a b : D} : (List.zip [("wide" : Str), "held"] [a, b]).lookup ("held" : Str) = some b := rfl
end C
set_option Elab.async false
set_option maxRecDepth 100000
set_option maxHeartbeats 1000000
set_option linter.unusedVariables false
namespace C
open PySem PySem.Spec PyProof.Rows L2 NdefX DL
local macro_rules | `(tactic| walk_at "dl") => `(tactic| simp only [wSeq, wLc, wTrue, wRaise0, wRaiseL, wSplit, wJoin, wFs, wSlS1, wSlS2, wAug, wItemsC, wEnum, pStr, fStr, pIntS, fIntS, roInS, orF, NoExc, dgTwo, wItemsT, wSlS0, wIsdig, roMulS, roInL, wIndexS, wSum, pSum, fSum, lk_wide, lk_held, okT_T, wFld, wGet, wMeth, wOwn2, wOwnI, wOwn1, wOwnLen, wOwnStr, wRevT, wZip, wItemsLT, wTupD, wLstD, wMv, isOwn, insOf, iStm, iFld, iEnd, pSumT, fSumT, wNever, tb, eq_self, exists_eq_left', Option.some.injEq,  wIf, wNext, wBreak, wCont, wRet, wRetN, wDrop, wSet, wTest, wAndB, wOrB, wNotB, wIsi, wVar, wC, wOp, wRaise, wCall, wCons, wNil, wFun, wPar, wTup, wNeg, wUn, wIfE, wAndV, wOrV, wNotV, wUnp2, wLst, wIxO, wLenO, wSetIx, wAppend, wDic0, wFor, wItemsL, wItemsS, wRng1, wRng2, wListRev, dgName, roAdd, roI, roI0, roB, roIx, roIsN, roF, roL, datas, List.map_cons, List.map_nil, entry, List.length_cons, List.length_nil, List.cons_append, List.nil_append, List.replicate, List.replicate_succ, List.replicate_zero, Nat.reduceAdd, Nat.reduceSub, Nat.zero_add,
  List.getElem?_cons_zero, List.getElem?_cons_succ, List.set_cons_zero, List.set_cons_succ, dat_sh, dat_ow, dat_dp, DL.isInt, DL.isBool, DL.isStr, DL.isLst, DL.isTup, PinD, Bool.not_true, Bool.not_false, Bool.false_eq_true, if_true, if_false, true_and, and_true, OkAD, bodyEnds, pInt1, pInt2, fAbs, fMin, fMax, pIntOf, fIntOf, pLen, fLen, pSeq, fSeq, reduceIte, decide_eq_true_eq, ite_true, ite_false, Bool.and_eq_true, Bool.not_eq_true', roEq_int, Bool.true_xor, Bool.false_xor, Bool.true_eq_false])
theorem intg_get {d y : D} {Q : Sl → Prop} {E : Er → Prop} (h : WF f_check_integer [d, y] Q E) : ∃ z, y = .str z ∧ z.length ≤ 1000 ∧ (isI d).isSome = true ∧ (isI d = some true → Q (.sh .non)) ∧ (isI d = some false → E (Er1 "WrongKind" z)) := by
  cases y with
  | str z =>
    have h2 : WF (fun _ => if z.length ≤ 1000 then (isI d).map fun b => if b then .ok .non else .error (Er1 "WrongKind" z) else none) [] Q E := h
    unfold WF at h2
    by_cases hz : z.length ≤ 1000
    · simp only [if_pos hz] at h2
      cases hd : isI d with
      | none => rw [hd] at h2; exact h2.elim
      | some b =>
        rw [hd] at h2
        cases b with
        | true => exact ⟨z, rfl, hz, rfl, fun _ => h2, (fun e => by cases e)⟩
        | false => exact ⟨z, rfl, hz, rfl, (fun e => by cases e), fun _ => h2⟩
    · simp only [if_neg hz] at h2
  | _ => exact (show False from h).elim
theorem sat_check_integer_tables : ∀ ds Q E', W_check_integer_tables ds Q E' → p_check_integer_tables (bodyEnds Q) (entry 2 ds) (fun e _ => E' e) := by
  intro ds Q E' h
  have hl := len_check_integer_tables ds Q E' h
  match ds, hl, h with
  | [y, d], _, h =>
    obtain ⟨z, rfl, hz, hs, h1, h2⟩ := intg_get h
    have hz2 : z.length ≤ 100000 := by omega
    unfold p_check_integer_tables
    cases d <;> (first | (cases hs; done) | skip) <;> walk_at "dl" <;> first
      | exact bodyR (h1 rfl)
      | exact ⟨hz2, h2 rfl⟩
theorem call_intT {d : D} {z : Str} {Q : Sl → Prop} {E : Er → Prop} (hz : z.length ≤ 1000) (h : (isI d).isSome = true) (h1 : isI d = some true → Q (.sh .non)) (h2 : isI d = some false → E (Er1 "WrongKind" z)) : W_check_integer_tables [.str z, d] Q E := chk_int hz h1 h2 h
theorem betw_get {d lo hi y : D} {Q : Sl → Prop} {E : Er → Prop} (h : WF f_check_between [d, lo, hi, y] Q E) : ∃ a b z, lo = .int a ∧ hi = .int b ∧ y = .str z := by
  cases y with
  | str z =>
    cases lo with
    | int a => cases hi with
      | int b => exact ⟨a, b, z, rfl, rfl, rfl⟩
      | _ => exact (show False from h).elim
    | _ => exact (show False from h).elim
  | _ => cases lo <;> first | exact (show False from h).elim | (cases hi <;> exact (show False from h).elim)
theorem sat_check_between_tables : ∀ ds Q E', W_check_between_tables ds Q E' → p_check_between_tables (bodyEnds Q) (entry 4 ds) (fun e _ => E' e) := by
  intro ds Q E' h
  have hl := len_check_between_tables ds Q E' h
  match ds, hl, h with
  | [y, d, lo, hi], _, h =>
    obtain ⟨a, b, z, rfl, rfl, rfl⟩ := betw_get h
    obtain ⟨hz, hs, h1, h2, h3⟩ := between_get (show WF f_check_between [d, .int a, .int b, .str z] Q E' from h)
    have hz2 : z.length ≤ 100000 := by omega
    unfold p_check_between_tables
    walk_at "dl"
    refine call_intT hz hs (fun e => ?_) h1
    cases d with
    | int i =>
      walk_at "dl"
      by_cases g1 : i < a
      · rw [if_pos g1]
        exact ⟨hz2, h2 i rfl (by unfold betw; simp only [Bool.and_eq_false_iff, decide_eq_false_iff_not]; omega)⟩
      · rw [if_neg g1]
        by_cases g2 : b < i
        · rw [if_pos g2]
          exact ⟨hz2, h2 i rfl (by unfold betw; simp only [Bool.and_eq_false_iff, decide_eq_false_iff_not]; omega)⟩
        · rw [if_neg g2]
          exact bodyR (h3 i rfl (by unfold betw; simp only [Bool.and_eq_true, decide_eq_true_eq]; omega))
    | _ => cases e
theorem call_betT {d : D} {lo hi : Int} {z : Str} {Q : Sl → Prop} {E : Er → Prop} (hz : z.length ≤ 1000) (h1 : isI d = some false → E (Er1 "WrongKind" z)) (h2 : ∀ i, d = .int i → betw i lo hi = false → E (Er1 "OutOfRange" z)) (h3 : ∀ i, d = .int i → betw i lo hi = true → Q (.sh .non)) (h : (isI d).isSome = true) :
    W_check_between_tables [.str z, d, .int lo, .int hi] Q E := call_between hz h1 h2 h3 h
theorem sat_check_width_tables : ∀ ds Q E', W_check_width_tables ds Q E' → p_check_width_tables (bodyEnds Q) (entry 1 ds) (fun e _ => E' e) := by
  intro ds Q E' h
  have hl := len_check_width_tables ds Q E' h
  match ds, hl, h with
  | [d], _, h =>
    obtain ⟨h0, h1, h2, h3, h4⟩ := between_get (d := d) (lo := 0) (hi := 6) (z := "width") h
    unfold p_check_width_tables
    walk_at "dl"
    exact call_betT h0 h2 h3 (fun i e b => bodyR (h4 i e b)) h1
theorem sat_check_word_tables : ∀ ds Q E', W_check_word_tables ds Q E' → p_check_word_tables (bodyEnds Q) (entry 3 ds) (fun e _ => E' e) := by
  rintro ds Q E' ⟨w, d, z, rfl, hw, h⟩
  obtain ⟨h0, h1, h2, h3, h4⟩ := between_get h
  unfold p_check_word_tables
  walk_at "dl"
  have e : (1 : Int) * 2 ^ ((w : Int)).toNat - 1 = 2 ^ w - 1 := by rw [Int.toNat_natCast, Int.one_mul]
  rw [e]
  exact ⟨⟨by omega, by omega, by decide⟩, call_betT h0 h2 h3 (fun i e b => bodyR (h4 i e b)) h1⟩
theorem row_get {d z lo hi : D} {Q : Sl → Prop} {E : Er → Prop} (h : WF f_check_row_tables [z, d, lo, hi] Q E) : ∃ z' a b o, z = .str z' ∧ lo = .int a ∧ hi = .int b ∧ z'.length ≤ 1000 ∧ rowF d a b = some o ∧ (o = none → Q (.sh .non)) ∧ ∀ c, o = some c → E (Er1 c z') := by
  cases z with
  | str z =>
    cases lo with
    | int a =>
      cases hi with
      | int b =>
        have h2 : WF (fun _ => if z.length ≤ 1000 then (rowF d a b).map fun o => (match o with | none => .ok .non | some c => .error (Er1 c z)) else none) [] Q E := h
        unfold WF at h2
        by_cases hz : z.length ≤ 1000
        · simp only [if_pos hz] at h2
          cases hd : rowF d a b with
          | none => rw [hd] at h2; exact h2.elim
          | some o =>
            rw [hd] at h2
            refine ⟨z, a, b, o, rfl, rfl, rfl, hz, hd, fun e => ?_, fun c e => ?_⟩ <;> (subst e; exact h2)
        · simp only [if_neg hz] at h2
      | _ => exact (show False from h).elim
    | _ => exact (show False from h).elim
  | _ => exact (show False from h).elim
theorem rowF_cases {d : D} {a b : Int} {o : Option Str} (h : rowF d a b = some o) : (∃ l, (d = .lst l ∨ d = .tup l) ∧ (((l.length : Int) < a ∨ b < l.length) ∧ o = some ("WrongSize" : Str) ∨ (¬ ((l.length : Int) < a ∨ b < l.length) ∧ o = none))) ∨ (isI d = some false ∧ (∀ l, d ≠ .lst l ∧ d ≠ .tup l) ∧ o = some ("WrongKind" : Str)) ∨ (∃ i, d = .int i ∧ o = some ("WrongKind" : Str)) := by
  have sz : ∀ l : List D, (some (if (l.length : Int) < a ∨ b < l.length then some ("WrongSize" : Str) else none) : Option (Option Str)) = some o → ((l.length : Int) < a ∨ b < l.length) ∧ o = some ("WrongSize" : Str) ∨ (¬ ((l.length : Int) < a ∨ b < l.length) ∧ o = none) := fun l e => by
    injection e with e
    by_cases g : (l.length : Int) < a ∨ b < l.length
    · rw [if_pos g] at e; exact .inl ⟨g, e.symm⟩
    · rw [if_neg g] at e; exact .inr ⟨g, e.symm⟩
  cases d with
  | lst l => exact .inl ⟨l, .inl rfl, sz l h⟩
  | tup l => exact .inl ⟨l, .inr rfl, sz l h⟩
  | int i => injection h with h; exact .inr (.inr ⟨i, rfl, h.symm⟩)
  | non => injection h with h; exact .inr (.inl ⟨rfl, (fun l => ⟨(fun e => by cases e), (fun e => by cases e)⟩), h.symm⟩)
  | bl _ => injection h with h; exact .inr (.inl ⟨rfl, (fun l => ⟨(fun e => by cases e), (fun e => by cases e)⟩), h.symm⟩)
  | str _ => injection h with h; exact .inr (.inl ⟨rfl, (fun l => ⟨(fun e => by cases e), (fun e => by cases e)⟩), h.symm⟩)
  | dic _ _ => injection h with h; exact .inr (.inl ⟨rfl, (fun l => ⟨(fun e => by cases e), (fun e => by cases e)⟩), h.symm⟩)
  | _ => cases h
theorem sat_check_row_tables : ∀ ds Q E', W_check_row_tables ds Q E' → p_check_row_tables (bodyEnds Q) (entry 4 ds) (fun e _ => E' e) := by
  intro ds Q E' h
  have hl := len_check_row_tables ds Q E' h
  match ds, hl, h with
  | [z0, d, lo, hi], _, h =>
    obtain ⟨z, a, b, o, rfl, rfl, rfl, hz, hr, h1, h2⟩ := row_get h
    have hz2 : z.length ≤ 100000 := by omega
    unfold p_check_row_tables
    rcases rowF_cases hr with ⟨l, hd, hc⟩ | ⟨hd, hne, ho⟩ | ⟨i, rfl, ho⟩
    · refine wSeq_k fun N hN => ?_
      have step : N (entry 4 [.str z, d, .int a, .int b]) → wIf (wNotB (wTest (wIsi (orF isLst isTup) [] (wVar 1)))) (wSeq (wRaise "WrongKind" (wVar 0)) wNext) wNext { bodyEnds Q with nx := N } (entry 4 [.str z, d, .int a, .int b]) (fun e _ => E' e) := fun k => by
        rcases hd with rfl | rfl <;> (walk_at "dl"; exact k)
      refine step (hN _ ?_)
      have fin : (wSeq (wIf (wOrB (wTest (wLt (wLen (wCons (wVar 1) wNil)) (wVar 2))) (wTest (wGt (wLen (wCons (wVar 1) wNil)) (wVar 3)))) (wSeq (wRaise "WrongSize" (wVar 0)) wNext) wNext) wNext) (bodyEnds Q) (entry 4 [.str z, d, .int a, .int b]) (fun e _ => E' e) := by
        rcases hd with rfl | rfl <;> (
          walk_at "dl"
          by_cases g1 : (l.length : Int) < a
          · rw [if_pos g1]
            rcases hc with ⟨_, e⟩ | ⟨g, _⟩
            · exact ⟨hz2, h2 _ e⟩
            · exact (g (.inl g1)).elim
          · rw [if_neg g1]
            by_cases g2 : b < (l.length : Int)
            · rw [if_pos g2]
              rcases hc with ⟨_, e⟩ | ⟨g, _⟩
              · exact ⟨hz2, h2 _ e⟩
              · exact (g (.inr g2)).elim
            · rw [if_neg g2]
              rcases hc with ⟨g, _⟩ | ⟨_, e⟩
              · omega
              · exact bodyR (h1 e))
      exact fin
    · have e := h2 _ ho
      cases d with
      | lst l => exact ((hne l).1 rfl).elim
      | tup l => exact ((hne l).2 rfl).elim
      | non => walk_at "dl"; exact ⟨hz2, e⟩
      | bl _ => walk_at "dl"; exact ⟨hz2, e⟩
      | str _ => walk_at "dl"; exact ⟨hz2, e⟩
      | dic _ _ => walk_at "dl"; exact ⟨hz2, e⟩
      | _ => cases hd
    · walk_at "dl"; exact ⟨hz2, h2 _ ho⟩
end C
set_option Elab.async false
set_option maxRecDepth 100000
set_option maxHeartbeats 1000000
set_option linter.unusedVariables false
namespace C
open PySem PySem.Spec PyProof.Rows L2 NdefX DL
local macro_rules | `(tactic| walk_at "dl") => `(tactic| simp only [wSeq, wLc, wTrue, wRaise0, wRaiseL, wSplit, wJoin, wFs, wSlS1, wSlS2, wAug, wItemsC, wEnum, pStr, fStr, pIntS, fIntS, roInS, orF, NoExc, dgTwo, wItemsT, wSlS0, wIsdig, roMulS, roInL, wIndexS, wSum, pSum, fSum, lk_wide, lk_held, okT_T, wFld, wGet, wMeth, wOwn2, wOwnI, wOwn1, wOwnLen, wOwnStr, wRevT, wZip, wItemsLT, wTupD, wLstD, wMv, isOwn, insOf, iStm, iFld, iEnd, pSumT, fSumT, wNever, tb, eq_self, exists_eq_left', Option.some.injEq,  wIf, wNext, wBreak, wCont, wRet, wRetN, wDrop, wSet, wTest, wAndB, wOrB, wNotB, wIsi, wVar, wC, wOp, wRaise, wCall, wCons, wNil, wFun, wPar, wTup, wNeg, wUn, wIfE, wAndV, wOrV, wNotV, wUnp2, wLst, wIxO, wLenO, wSetIx, wAppend, wDic0, wFor, wItemsL, wItemsS, wRng1, wRng2, wListRev, dgName, roAdd, roI, roI0, roB, roIx, roIsN, roF, roL, datas, List.map_cons, List.map_nil, entry, List.length_cons, List.length_nil, List.cons_append, List.nil_append, List.replicate, List.replicate_succ, List.replicate_zero, Nat.reduceAdd, Nat.reduceSub, Nat.zero_add,
  List.getElem?_cons_zero, List.getElem?_cons_succ, List.set_cons_zero, List.set_cons_succ, dat_sh, dat_ow, dat_dp, DL.isInt, DL.isBool, DL.isStr, DL.isLst, DL.isTup, PinD, Bool.not_true, Bool.not_false, Bool.false_eq_true, if_true, if_false, true_and, and_true, OkAD, bodyEnds, pInt1, pInt2, fAbs, fMin, fMax, pIntOf, fIntOf, pLen, fLen, pSeq, fSeq, reduceIte, decide_eq_true_eq, ite_true, ite_false, Bool.and_eq_true, Bool.not_eq_true', roEq_int, Bool.true_xor, Bool.false_xor, Bool.true_eq_false])
theorem WF_of {f : List D → Option Kd} {ds : List D} {r : Kd} {Q : Sl → Prop} {E : Er → Prop} (h : f ds = some r) (h1 : ∀ d, r = .ok d → Q (.sh d)) (h2 : ∀ e, r = .error e → E e) : WF f ds Q E := by
  cases r with
  | ok d => exact WF_ok h (h1 d rfl)
  | error e => exact WF_err h (h2 e rfl)
def kO (z : Str) : Option Str → Kd
  | none => .ok .non
  | some c => .error (Er1 c z)
theorem row_eq {d : D} {z : Str} {a b : Int} (hz : z.length ≤ 1000) : f_check_row_tables [.str z, d, .int a, .int b] = (rowF d a b).map (kO z) := by
  unfold f_check_row_tables
  simp only []
  rw [if_pos hz]
  cases rowF d a b with
  | none => rfl
  | some o => cases o <;> rfl
theorem bs_len : ("bits" : Str).length ≤ 1000 := by decide +kernel
theorem call_cw {d : D} {Q : Sl → Prop} {E : Er → Prop} (h : WF f_check_between [d, .int 0, .int 6, .str "width"] Q E) : W_check_width_tables [d] Q E := h
theorem bits_cons {d : D} {ds : List D} {Q : Sl → Prop} {E : Er → Prop} (h : WF (fun _ => bitsF (d :: ds)) [] Q E) : WF f_check_between [d, .int 0, .int 1, .str "bits"] (fun _ => WF (fun _ => bitsF ds) [] Q E) E := by
  unfold WF at h ⊢
  simp only [bitsF] at h
  cases hc : f_check_between [d, .int 0, .int 1, .str "bits"] with
  | none => rw [hc] at h; exact h
  | some r =>
    rw [hc] at h
    cases r with
    | ok v => exact h
    | error e => exact h
theorem cb_get {d lo hi : D} {Q : Sl → Prop} {E : Er → Prop} (h : WF f_check_bits [d, lo, hi] Q E) : ∃ a b o, lo = .int a ∧ hi = .int b ∧ rowF d a b = some o ∧ (∀ c, o = some c → E (Er1 c "bits")) ∧ (o = none → WF (fun _ => bitsF (itemsD d)) [] Q E) := by
  cases lo with
  | int a =>
    cases hi with
    | int b =>
      have h2 : WF (fun _ => match f_check_row_tables [.str "bits", d, .int a, .int b] with
        | some (.ok _) => bitsF (itemsD d)
        | r => r) [] Q E := h
      have e := row_eq (d := d) (a := a) (b := b) bs_len
      unfold WF at h2
      simp only [e] at h2
      cases hr : rowF d a b with
      | none => rw [hr] at h2; exact h2.elim
      | some o =>
        rw [hr] at h2
        refine ⟨a, b, o, rfl, rfl, hr, fun c eo => ?_, fun eo => ?_⟩
        · subst eo; exact h2
        · subst eo; exact h2
    | _ => exact (show False from h).elim
  | _ => exact (show False from h).elim
theorem sat_check_bits : ∀ ds Q E', W_check_bits ds Q E' → p_check_bits (bodyEnds Q) (entry 4 ds) (fun e _ => E' e) := by
  intro ds Q E' h
  have hl := len_check_bits ds Q E' h
  match ds, hl, h with
  | [d, lo, hi], _, h =>
    obtain ⟨a, b, o, rfl, rfl, hr, h1, h2⟩ := cb_get h
    unfold p_check_bits
    refine wSeq_k fun N hN => ?_
    walk_at "dl"
    refine WF_of (r := kO "bits" o) ?_ (fun v ev => ?_) (fun e ee => ?_)
    · show f_check_row_tables [.str "bits", d, .int a, .int b] = _
      rw [row_eq bs_len, hr]; rfl
    · cases o with
      | some c => cases ev
      | none =>
        refine hN _ ?_
        refine wSeq_k fun N2 hN2 => ?_
        have hb := h2 rfl
        have fin : ∀ x, N2 [.sh d, .sh (.int a), .sh (.int b), x] → Q (.sh .non) → N2 [.sh d, .sh (.int a), .sh (.int b), x] := fun x k _ => k
        have loop : ∀ l : List D, WF (fun _ => bitsF l) [] Q E' → forD (dgName 3) (wSeq (wDrop (wCall W_check_between_tables (wCons (wC (.str "bits")) (wCons (wVar 3) (wCons (wC (.int 0)) (wCons (wC (.int 1)) wNil)))))) wNext) { bodyEnds Q with nx := N2 } (fun e _ => E' e) l [.sh d, .sh (.int a), .sh (.int b), .un] := fun l hl => by
          refine forD_ind (fun l ρ => (∃ x, ρ = [.sh d, .sh (.int a), .sh (.int b), x]) ∧ WF (fun _ => bitsF l) [] Q E') ?_ ?_ _ _ ⟨⟨_, rfl⟩, hl⟩
          · rintro ρ ⟨⟨x, rfl⟩, hq⟩
            refine hN2 _ ?_
            walk_at "dl"
            exact bodyR (show Q (.sh .non) from hq)
          · rintro d1 l ρ ⟨⟨x, rfl⟩, hq⟩ K hK
            walk_at "dl"
            exact WF_mono (fun z k => hK _ ⟨⟨_, rfl⟩, k⟩) (fun _ k => k) (bits_cons hq)
        rcases rowF_cases hr with ⟨l, hd, _⟩ | ⟨_, _, e⟩ | ⟨_, _, e⟩
        · rcases hd with rfl | rfl
          · exact loop l hb
          · exact loop l hb
        · cases e
        · cases e
    · cases o with
      | none => cases ee
      | some c => cases ee; exact h1 c rfl
theorem cb_seq {d : D} {a b : Int} {Q : Sl → Prop} {E : Er → Prop} (h : WF f_check_bits [d, .int a, .int b] Q E) : WF f_check_bits [d, .int a, .int b] (fun z => (∃ l, d = .lst l ∨ d = .tup l) ∧ Q z) E := by
  cases d with
  | lst l => exact WF_mono (fun z q => ⟨⟨l, .inl rfl⟩, q⟩) (fun _ k => k) h
  | tup l => exact WF_mono (fun z q => ⟨⟨l, .inr rfl⟩, q⟩) (fun _ k => k) h
  | non => exact h
  | bl _ => exact h
  | int _ => exact h
  | str _ => exact h
  | dic _ _ => exact h
  | _ => exact (show False from h).elim
theorem init_get {x d : D} {Q : Sl → Prop} {E : Er → Prop} (h : WF f_Table_init [x, d] Q E) : WF f_check_between [x, .int 0, .int 6, .str "width"] (fun _ => ∃ w : Int, x = .int w ∧ WF f_check_bits [d, .int (2 ^ w.toNat), .int (2 ^ w.toNat)] (fun _ => Q (.sh (.ins "Table" ["wide", "held"] [.int w, .tup (itemsD d)]))) E) E := by
  unfold WF f_Table_init at h
  unfold WF
  have e : f_check_width_tables [x] = f_check_between [x, .int 0, .int 6, .str "width"] := rfl
  simp only [e] at h
  cases hc : f_check_between [x, .int 0, .int 6, .str "width"] with
  | none => rw [hc] at h; exact h.elim
  | some r =>
    rw [hc] at h
    cases r with
    | error er => exact h
    | ok v =>
      cases x with
      | int w =>
        refine ⟨w, rfl, ?_⟩
        simp only [] at h
        cases hb : f_check_bits [d, .int (2 ^ w.toNat), .int (2 ^ w.toNat)] with
        | none => rw [hb] at h; exact h.elim
        | some r =>
          rw [hb] at h
          cases r with
          | ok v => exact h
          | error er => exact h
      | _ => exact h.elim
theorem sat_Table_init (K : PySem.W.Frag) : ∀ a ds Q E', W_Table_init ds Q E' → p_Table_init K a [] [] (entry 3 (selfD K "Table" a :: ds)) (fun fs ds => Q (.sh (.ins "Table" fs ds))) E' := by
  intro a ds Q E' h
  have hl := len_Table_init ds Q E' h
  match ds, hl, h with
  | [x, d], _, h =>
    have st : ∀ y1 y2 y3 : D, ∀ z ∈ [Sl.sh y1, .sh y2, .sh y3], StillS z := fun y1 y2 y3 z hz => by
      simp only [List.mem_cons, List.not_mem_nil, or_false] at hz
      rcases hz with rfl | rfl | rfl <;> exact .inr ⟨_, rfl⟩
    obtain ⟨h0, h1, h2, h3, h4⟩ := between_get (init_get h)
    unfold p_Table_init
    walk_at "dl"
    refine call_cw (call_between (d := x) (lo := 0) (hi := 6) (z := "width") h0 h2 h3 (fun i e b => ?_) h1)
    obtain ⟨w, ew, hq⟩ := h4 i e b
    subst e
    cases ew
    have hi : 0 ≤ i ∧ i ≤ 6 := by unfold betw at b; simp only [Bool.and_eq_true, decide_eq_true_eq] at b; exact b
    refine ⟨st _ _ _, ?_⟩
    walk_at "dl"
    have e1 : (1 : Int) * 2 ^ i.toNat = 2 ^ i.toNat := Int.one_mul _
    rw [e1]
    refine ⟨⟨by omega, by omega, by decide⟩, ⟨by omega, by omega, by decide⟩, ?_⟩
    refine WF_mono (fun z k => ?_) (fun _ k => k) (cb_seq hq)
    obtain ⟨⟨l, hd⟩, k⟩ := k
    refine ⟨st _ _ _, ?_⟩
    have fin : (roTup [d] fun z => z = .sh (.tup (itemsD d))) := by rcases hd with rfl | rfl <;> rfl
    refine ⟨st _ _ _, by simp, by decide, ?_⟩
    refine roTup_mono (fun z ez => ?_) fin
    subst ez
    exact ⟨st _ _ _, by decide +kernel, by decide, k⟩
theorem nD_bits {l : List Nat} (h : ∀ b ∈ l, b ≤ 1) : bitsF (nD l) = some (.ok .non) := by
  induction l with
  | nil => rfl
  | cons b l ih =>
    have e : f_check_between [.int (b : Nat), .int 0, .int 1, .str "bits"] = some (.ok .non) := by
      unfold f_check_between
      simp only []
      have hb := h b List.mem_cons_self
      have hb2 : betw ((b : Nat) : Int) 0 1 = true := by unfold betw; simp only [Bool.and_eq_true, decide_eq_true_eq]; omega
      rw [if_pos (by decide +kernel), hb2]; rfl
    show bitsF (.int (b : Nat) :: nD l) = _
    unfold bitsF
    rw [e]
    exact ih fun c hc => h c (List.mem_cons_of_mem _ hc)
theorem mk_ok {w : Nat} {l : List Nat} {d : D} (h : TB w l) (hd : d = .lst (nD l) ∨ d = .tup (nD l)) : f_Table_init [.int w, d] = some (.ok (tb w l)) := by
  have w6 := h.w6
  have ei : itemsD d = nD l := by rcases hd with rfl | rfl <;> rfl
  have e1 : f_check_width_tables [.int (w : Nat)] = some (.ok .non) := by
    show f_check_between [.int (w : Nat), .int 0, .int 6, .str "width"] = _
    unfold f_check_between
    simp only []
    have hb2 : betw ((w : Nat) : Int) 0 6 = true := by unfold betw; simp only [Bool.and_eq_true, decide_eq_true_eq]; omega
    rw [if_pos (by decide +kernel), hb2]; rfl
  have pw : ((2 ^ w : Nat) : Int) = 2 ^ w := pow_i w
  have lr : rowF d (2 ^ w) (2 ^ w) = some none := by
    have : ¬ (((nD l).length : Int) < 2 ^ w ∨ (2 : Int) ^ w < (nD l).length) := by rw [nD_len, h.len, pw]; omega
    rcases hd with rfl | rfl <;> (show some (if _ then _ else _) = _; rw [if_neg this])
  have e2 : f_check_bits [d, .int (2 ^ w), .int (2 ^ w)] = some (.ok .non) := by
    have e : f_check_row_tables [.str "bits", d, .int (2 ^ w), .int (2 ^ w)] = some (.ok .non) := by
      rw [row_eq bs_len, lr]; rfl
    show (match f_check_row_tables [.str "bits", d, .int (2 ^ w), .int (2 ^ w)] with
      | some (.ok _) => bitsF (itemsD d)
      | r => r) = _
    rw [e, ei]
    exact nD_bits h.bit
  unfold f_Table_init
  simp only [e1, Int.toNat_natCast, e2, ei]
  rfl
theorem call_mk {w : Nat} {l : List Nat} {Q : Sl → Prop} {E : Er → Prop} (h : TB w l) (q : Q (.sh (tb w l))) : W_Table_init [.int w, .lst (nD l)] Q E := WF_ok (mk_ok h (.inl rfl)) q
theorem call_mkT {w : Nat} {l : List Nat} {Q : Sl → Prop} {E : Er → Prop} (h : TB w l) (q : Q (.sh (tb w l))) : W_Table_init [.int w, .tup (nD l)] Q E := WF_ok (mk_ok h (.inr rfl)) q
end C
set_option Elab.async false
set_option maxRecDepth 100000
set_option maxHeartbeats 1000000
set_option linter.unusedVariables false
namespace C
open PySem PySem.Spec PyProof.Rows L2 NdefX DL
local macro_rules | `(tactic| walk_at "dl") => `(tactic| simp only [wSeq, wLc, wTrue, wRaise0, wRaiseL, wSplit, wJoin, wFs, wSlS1, wSlS2, wAug, wItemsC, wEnum, pStr, fStr, pIntS, fIntS, roInS, orF, NoExc, dgTwo, wItemsT, wSlS0, wIsdig, roMulS, roInL, wIndexS, wSum, pSum, fSum, lk_wide, lk_held, okT_T, wFld, wGet, wMeth, wOwn2, wOwnI, wOwn1, wOwnLen, wOwnStr, wRevT, wZip, wItemsLT, wTupD, wLstD, wMv, isOwn, insOf, iStm, iFld, iEnd, pSumT, fSumT, wNever, tb, eq_self, exists_eq_left', Option.some.injEq,  wIf, wNext, wBreak, wCont, wRet, wRetN, wDrop, wSet, wTest, wAndB, wOrB, wNotB, wIsi, wVar, wC, wOp, wRaise, wCall, wCons, wNil, wFun, wPar, wTup, wNeg, wUn, wIfE, wAndV, wOrV, wNotV, wUnp2, wLst, wIxO, wLenO, wSetIx, wAppend, wDic0, wFor, wItemsL, wItemsS, wRng1, wRng2, wListRev, dgName, roAdd, roI, roI0, roB, roIx, roIsN, roF, roL, datas, List.map_cons, List.map_nil, entry, List.length_cons, List.length_nil, List.cons_append, List.nil_append, List.replicate, List.replicate_succ, List.replicate_zero, Nat.reduceAdd, Nat.reduceSub, Nat.zero_add,
  List.getElem?_cons_zero, List.getElem?_cons_succ, List.set_cons_zero, List.set_cons_succ, dat_sh, dat_ow, dat_dp, DL.isInt, DL.isBool, DL.isStr, DL.isLst, DL.isTup, PinD, Bool.not_true, Bool.not_false, Bool.false_eq_true, if_true, if_false, true_and, and_true, OkAD, bodyEnds, pInt1, pInt2, fAbs, fMin, fMax, pIntOf, fIntOf, pLen, fLen, pSeq, fSeq, reduceIte, decide_eq_true_eq, ite_true, ite_false, Bool.and_eq_true, Bool.not_eq_true', roEq_int, Bool.true_xor, Bool.false_xor, Bool.true_eq_false])
/-! ### rows of numbers compared -/
def pdN (l : List Nat) : List PyData := l.map fun (n : Nat) => PyData.int n
theorem toPys_nD : ∀ l : List Nat, toPys (nD l) = some (pdN l)
  | [] => rfl
  | n :: l => by
    show (match toPy (.int n), toPys (nD l) with | some p, some ps => some (p :: ps) | _, _ => none) = _
    rw [toPys_nD l]; rfl
theorem lay_nD : ∀ l : List Nat, PyData.canLayAll0 (pdN l) = true
  | [] => rfl
  | n :: l => by
    show (PyData.canLay0 (.int n) && PyData.canLayAll0 (pdN l)) = true
    rw [lay_nD l]; rfl
theorem dep_nD : ∀ l : List Nat, PyData.depthAll (pdN l) ≤ 1
  | [] => by decide
  | n :: l => by
    show max (PyData.depth (.int n)) (PyData.depthAll (pdN l)) ≤ 1
    have := dep_nD l
    have e : PyData.depth (.int (n : Int)) ≤ 1 := by unfold PyData.depth; decide
    omega
theorem eqv_nD : ∀ l m : List Nat, PyData.eqvAll (pdN l) (pdN m) = decide (l = m)
  | [], [] => rfl
  | [], _ :: _ => rfl
  | _ :: _, [] => rfl
  | a :: l, b :: m => by
    show (PyData.eqv (.int a) (.int b) && PyData.eqvAll (pdN l) (pdN m)) = _
    rw [eqv_nD l m]
    show (((a : Int) == b) && decide (l = m)) = _
    by_cases h : a = b
    · subst h
      by_cases h2 : l = m
      · subst h2; simp
      · rw [decide_eq_false h2, decide_eq_false (fun e => h2 (List.cons.inj e).2)]; simp
    · have : ((a : Int) == b) = false := by rw [beq_eq_false_iff_ne]; omega
      rw [this, decide_eq_false (fun e => h (List.cons.inj e).1)]; rfl
theorem shp_nD (l : List Nat) : SeqAt.shaped (.tuple (pdN l)) = true := by
  unfold SeqAt.shaped
  rw [Bool.and_eq_true, decide_eq_true_eq]
  refine ⟨lay_nD l, ?_⟩
  have := dep_nD l
  show PyData.depthAll (pdN l) + 1 ≤ 64
  omega
theorem roEq_nD {neg : Bool} {l m : List Nat} {Q : Sl → Prop} (q : Q (.sh (.bl (xor neg (decide (l = m)))))) : roEq neg (.tup (nD l)) (.tup (nD m)) Q := by
  refine ⟨.tuple (pdN l), .tuple (pdN m), by show (toPys (nD l)).map _ = _; rw [toPys_nD]; rfl, by show (toPys (nD m)).map _ = _; rw [toPys_nD]; rfl, shp_nD l, shp_nD m, ?_⟩
  show Q (.sh (.bl (xor neg (PyData.eqvAll (pdN l) (pdN m)))))
  rw [eqv_nD]
  exact q
theorem atD_nD {l : List Nat} {i : Int} (h0 : 0 ≤ i) (h1 : i < l.length) : atD (nD l) i = some (.int (l.getD i.toNat 0 : Nat)) := by
  unfold atD atI ixN
  rw [if_pos h0, nD_len, if_pos h1]
  show (nD l)[i.toNat]? = _
  unfold nD
  have hl : i.toNat < l.length := by omega
  rw [List.getElem?_map, List.getElem?_eq_getElem hl]
  rw [List.getD_eq_getElem?_getD, List.getElem?_eq_getElem hl]; rfl
theorem nD_sum (l : List Nat) : ((nD l).map intOf).sum = ((l.sum : Nat) : Int) := by
  induction l with
  | nil => rfl
  | cons a l ih =>
    show (a : Int) + ((nD l).map intOf).sum = _
    rw [ih, List.sum_cons]; omega
theorem nD_ints (l : List Nat) : ∃ ns : List Int, nD l = ns.map D.int := ⟨l.map fun (n : Nat) => (n : Int), by unfold nD; rw [List.map_map]; rfl⟩
theorem valN_lt : ∀ {l : List Nat}, (∀ b ∈ l, b ≤ 1) → valN l < 2 ^ l.length
  | [], _ => by decide
  | b :: l, h => by
    have h1 := h b List.mem_cons_self
    have h2 := valN_lt (l := l) fun c hc => h c (List.mem_cons_of_mem _ hc)
    show b + 2 * valN l < 2 ^ (l.length + 1)
    rw [Nat.pow_succ]; omega
theorem TB.pow {w : Nat} {l : List Nat} (h : TB w l) : 2 ^ w ≤ 64 := Nat.pow_le_pow_right (n := 2) (by decide) h.w6
theorem TB.le {w : Nat} {l : List Nat} (h : TB w l) : l.length ≤ 64 := by rw [h.len]; exact h.pow
theorem TB.inv {w : Nat} {l : List Nat} (h : TB w l) : TB w (invL l) := ⟨h.w6, by unfold invL; rw [List.length_map]; exact h.len, fun b hb => by
  unfold invL at hb
  obtain ⟨c, _, rfl⟩ := List.mem_map.mp hb
  omega⟩
theorem TB.zip {w : Nat} {l m : List Nat} {f : Nat → Nat → Nat} (h : TB w l) (k : TB w m) (hf : ∀ a b, a ≤ 1 → b ≤ 1 → f a b ≤ 1) : TB w (List.zipWith f l m) := ⟨h.w6, by rw [List.length_zipWith, h.len, k.len, Nat.min_self], fun b hb => by
  obtain ⟨i, hi⟩ := List.getElem?_of_mem hb
  rw [List.getElem?_zipWith] at hi
  cases q1 : l[i]? with
  | none => rw [q1] at hi; cases hi
  | some a => cases q2 : m[i]? with
    | none => rw [q1, q2] at hi; cases hi
    | some c =>
      rw [q1, q2] at hi
      cases hi
      exact hf _ _ (h.bit _ (List.mem_of_getElem? q1)) (k.bit _ (List.mem_of_getElem? q2))⟩
theorem TB.xor {w : Nat} {l m : List Nat} (h : TB w l) (k : TB w m) : TB w (xorL l m) := h.zip k fun a b _ _ => by omega
theorem TB.and {w : Nat} {l m : List Nat} (h : TB w l) (k : TB w m) : TB w (andL l m) := h.zip k fun a b ha hb => Nat.mul_le_mul ha hb
/-- a comprehension over two rows of numbers -/
theorem lcD2_zip {i j : Nat} {we : DT Sl} {ρ : DEnv} {R : List D → DEnv → Prop} (g : Nat → Nat → Nat) (hu : ∀ a b : D, ((((ρ.set i (.sh a)).set j (.sh b)).set j .un).set i .un) = ρ) : ∀ (l m : List Nat) (acc : List D),
    (∀ a b, a ∈ l → b ∈ m → ∀ (Q : Sl → DEnv → Prop) (E : EC), Q (.sh (.int (g a b : Nat))) ((ρ.set i (.sh (.int a))).set j (.sh (.int b))) → we ((ρ.set i (.sh (.int a))).set j (.sh (.int b))) Q E) →
    acc.length + l.length ≤ 100000 → R (acc ++ nD (List.zipWith g l m)) ρ → lcD2 i j wTrue we R (zipD (nD l) (nD m)) acc ρ
  | [], m, acc, _, _, h => by
    rw [List.zipWith_nil_left, show nD [] = [] from rfl, List.append_nil] at h; exact h
  | _ :: _, [], acc, _, _, h => by
    rw [List.zipWith_nil_right, show nD [] = [] from rfl, List.append_nil] at h; exact h
  | a :: l, b :: m, acc, he, hl, h => by
    have l2 : acc.length + (l.length + 1) ≤ 100000 := hl
    show lcD2 i j wTrue we R (.tup [.int a, .int b] :: zipD (nD l) (nD m)) acc ρ
    unfold lcD2 dgTwo wTrue
    simp only [if_true]
    refine he a b List.mem_cons_self List.mem_cons_self _ _ ⟨by rw [sizeLine_eq]; omega, ?_⟩
    rw [hu]
    refine lcD2_zip g hu l m _ (fun x y hx hy => he x y (List.mem_cons_of_mem _ hx) (List.mem_cons_of_mem _ hy)) (by rw [List.length_append]; simp only [List.length_cons, List.length_nil]; omega) ?_
    rw [List.zipWith_cons_cons] at h
    rw [List.append_assoc]
    exact h
theorem word_get {w : Nat} {d : D} {g : Nat → D} {Q : Sl → Prop} {E : Er → Prop} (h : WF (fun _ => wordF w d g) [] Q E) : WF f_check_between [d, .int 0, .int (2 ^ w - 1), .str "word"] (fun _ => ∃ i : Int, d = .int i ∧ Q (.sh (g i.toNat))) E := by
  unfold WF at h ⊢
  simp only [wordF] at h
  cases hc : f_check_between [d, .int 0, .int (2 ^ w - 1), .str "word"] with
  | none => rw [hc] at h; exact h.elim
  | some r =>
    rw [hc] at h
    cases r with
    | error er => exact h
    | ok v =>
      cases d with
      | int i => exact ⟨i, rfl, h⟩
      | _ => exact h.elim
end C
set_option Elab.async false
set_option maxRecDepth 100000
set_option maxHeartbeats 1000000
set_option linter.unusedVariables false
namespace C
open PySem PySem.Spec PyProof.Rows L2 NdefX DL
local macro_rules | `(tactic| walk_at "dl") => `(tactic| simp only [wSeq, wLc, wTrue, wRaise0, wRaiseL, wSplit, wJoin, wFs, wSlS1, wSlS2, wAug, wItemsC, wEnum, pStr, fStr, pIntS, fIntS, roInS, orF, NoExc, dgTwo, wItemsT, wSlS0, wIsdig, roMulS, roInL, wIndexS, wSum, pSum, fSum, lk_wide, lk_held, okT_T, wFld, wGet, wMeth, wOwn2, wOwnI, wOwn1, wOwnLen, wOwnStr, wRevT, wZip, wItemsLT, wTupD, wLstD, wMv, isOwn, insOf, iStm, iFld, iEnd, pSumT, fSumT, wNever, tb, eq_self, exists_eq_left', Option.some.injEq,  wIf, wNext, wBreak, wCont, wRet, wRetN, wDrop, wSet, wTest, wAndB, wOrB, wNotB, wIsi, wVar, wC, wOp, wRaise, wCall, wCons, wNil, wFun, wPar, wTup, wNeg, wUn, wIfE, wAndV, wOrV, wNotV, wUnp2, wLst, wIxO, wLenO, wSetIx, wAppend, wDic0, wFor, wItemsL, wItemsS, wRng1, wRng2, wListRev, dgName, roAdd, roI, roI0, roB, roIx, roIsN, roF, roL, datas, List.map_cons, List.map_nil, entry, List.length_cons, List.length_nil, List.cons_append, List.nil_append, List.replicate, List.replicate_succ, List.replicate_zero, Nat.reduceAdd, Nat.reduceSub, Nat.zero_add,
  List.getElem?_cons_zero, List.getElem?_cons_succ, List.set_cons_zero, List.set_cons_succ, dat_sh, dat_ow, dat_dp, DL.isInt, DL.isBool, DL.isStr, DL.isLst, DL.isTup, PinD, Bool.not_true, Bool.not_false, Bool.false_eq_true, if_true, if_false, true_and, and_true, OkAD, bodyEnds, pInt1, pInt2, fAbs, fMin, fMax, pIntOf, fIntOf, pLen, fLen, pSeq, fSeq, reduceIte, decide_eq_true_eq, ite_true, ite_false, Bool.and_eq_true, Bool.not_eq_true', roEq_int, Bool.true_xor, Bool.false_xor, Bool.true_eq_false])
theorem sat_Table_width : ∀ ds Q E', W_Table_width ds Q E' → p_Table_width (bodyEnds Q) (entry 1 ds) (fun e _ => E' e) := by
  rintro ds Q E' ⟨w, l, rfl, hT, hq⟩
  unfold p_Table_width
  walk_at "dl"
  exact bodyR hq
theorem sat_Table_bits : ∀ ds Q E', W_Table_bits ds Q E' → p_Table_bits (bodyEnds Q) (entry 1 ds) (fun e _ => E' e) := by
  rintro ds Q E' ⟨w, l, rfl, hT, hq⟩
  unfold p_Table_bits
  walk_at "dl"
  exact bodyR hq
theorem sat_Table_ones : ∀ ds Q E', W_Table_ones ds Q E' → p_Table_ones (bodyEnds Q) (entry 1 ds) (fun e _ => E' e) := by
  rintro ds Q E' ⟨w, l, rfl, hT, hq⟩
  unfold p_Table_ones
  walk_at "dl"
  refine ⟨nD_ints l, ?_⟩
  rw [nD_sum]
  exact bodyR hq
theorem sat_Table_number : ∀ ds Q E', W_Table_number ds Q E' → p_Table_number (bodyEnds Q) (entry 3 ds) (fun e _ => E' e) := by
  rintro ds Q E' ⟨w, l, rfl, hT, hq⟩
  unfold p_Table_number
  refine wSeq_k fun N1 hN1 => ?_
  walk_at "dl"
  refine hN1 _ ?_
  refine wSeq_k fun N2 hN2 => ?_
  walk_at "dl"
  have rv : (nD l).reverse = nD l.reverse := by unfold nD; rw [List.map_reverse]
  rw [rv]
  refine forD_ind (fun ds ρ => ∃ pre m x, l = pre ++ m ∧ ds = nD pre.reverse ∧ ρ = [.sh (tb w l), .sh (.int (valN m)), x]) ?_ ?_ _ _ ⟨l, [], .un, by rw [List.append_nil], rfl, rfl⟩
  · rintro ρ ⟨pre, m, x, e, e2, rfl⟩
    have hp : pre = [] := by
      have := congrArg List.length e2
      rw [nD_len, List.length_reverse] at this
      exact List.length_eq_zero_iff.mp this.symm
    subst hp
    rw [List.nil_append] at e
    subst e
    refine hN2 _ ?_
    walk_at "dl"
    exact bodyR hq
  · rintro d ds ρ ⟨pre, m, x, e, e2, rfl⟩ K hK
    have hp : pre ≠ [] := fun z => by subst z; cases e2
    obtain ⟨pr, b, rfl⟩ : ∃ pr b, pre = pr ++ [b] := ⟨pre.dropLast, pre.getLast hp, (List.dropLast_concat_getLast hp).symm⟩
    rw [List.reverse_append] at e2
    cases e2
    walk_at "dl"
    have hv : valN m < 2 ^ 64 := by
      have h1 := valN_lt (l := m) fun c hc => hT.bit c (by rw [e]; exact List.mem_append_right _ hc)
      have h2 : m.length ≤ 64 := by
        have := hT.le
        rw [e, List.length_append] at this; omega
      exact Nat.lt_of_lt_of_le h1 (Nat.pow_le_pow_right (by decide) h2)
    refine ⟨.inl (.inr ⟨by omega, by omega⟩), hK _ ⟨pr, b :: m, .sh (.int b), by rw [e]; simp, rfl, ?_⟩⟩
    have e3 : (valN m : Int) * 2 + (b : Int) = ((valN (b :: m) : Nat) : Int) := by show _ = ((b + 2 * valN m : Nat) : Int); omega
    rw [e3]
    rfl
theorem sat_Table_sign : ∀ ds Q E', W_Table_sign ds Q E' → p_Table_sign (bodyEnds Q) (entry 2 ds) (fun e _ => E' e) := by
  rintro ds Q E' ⟨w, l, d, rfl, hT, h⟩
  obtain ⟨h0, h1, h2, h3, h4⟩ := between_get (word_get h)
  have pw := pow_i w
  unfold p_Table_sign
  refine wSeq_k fun N1 hN1 => ?_
  walk_at "dl"
  refine ⟨w, d, "word", rfl, hT.w6, call_between h0 h2 h3 (fun i e b => hN1 _ ?_) h1⟩
  obtain ⟨i', ei, hq⟩ := h4 i e b
  subst e
  cases ei
  have hi : 0 ≤ i ∧ i ≤ 2 ^ w - 1 := by unfold betw at b; simp only [Bool.and_eq_true, decide_eq_true_eq] at b; exact b
  walk_at "dl"
  have hb : l.getD i.toNat 0 ≤ 1 := by
    have hl : i.toNat < l.length := by have := hT.len; omega
    rw [List.getD_eq_getElem?_getD, List.getElem?_eq_getElem hl]
    exact hT.bit _ (List.getElem_mem hl)
  refine ⟨_, atD_nD hi.1 (by have := hT.len; omega), ?_⟩
  walk_at "dl"
  exact ⟨.inl (.inl ⟨by omega, by omega⟩), bodyR hq⟩
theorem sat_Table_getitem : ∀ ds Q E', W_Table_getitem ds Q E' → p_Table_getitem (bodyEnds Q) (entry 2 ds) (fun e _ => E' e) := by
  rintro ds Q E' ⟨w, l, d, rfl, hT, h⟩
  obtain ⟨h0, h1, h2, h3, h4⟩ := between_get (word_get h)
  have pw := pow_i w
  unfold p_Table_getitem
  refine wSeq_k fun N1 hN1 => ?_
  walk_at "dl"
  refine ⟨w, d, "word", rfl, hT.w6, call_between h0 h2 h3 (fun i e b => hN1 _ ?_) h1⟩
  obtain ⟨i', ei, hq⟩ := h4 i e b
  subst e
  cases ei
  have hi : 0 ≤ i ∧ i ≤ 2 ^ w - 1 := by unfold betw at b; simp only [Bool.and_eq_true, decide_eq_true_eq] at b; exact b
  walk_at "dl"
  exact ⟨_, atD_nD hi.1 (by have := hT.len; omega), bodyR hq⟩
theorem sat_Table_signs : ∀ ds Q E', W_Table_signs ds Q E' → p_Table_signs (bodyEnds Q) (entry 2 ds) (fun e _ => E' e) := by
  rintro ds Q E' ⟨w, l, rfl, hT, hq⟩
  unfold p_Table_signs
  walk_at "dl"
  refine ⟨.inl rfl, ?_⟩
  refine lcD_all (fun (n : Nat) => D.int n) (fun (n : Nat) => D.int (1 - 2 * (n : Int))) l (fun n hn Q0 E0 q => ?_) rfl (by have := hT.le; omega) fun p => ?_
  · walk_at "dl"
    have := hT.bit n hn
    exact ⟨.inl (.inl ⟨by omega, by omega⟩), q⟩
  · exact bodyR (hq p)
theorem sat_Table_len : ∀ ds Q E', W_Table_len ds Q E' → p_Table_len (bodyEnds Q) (entry 1 ds) (fun e _ => E' e) := by
  rintro ds Q E' ⟨w, l, rfl, hT, hq⟩
  unfold p_Table_len
  walk_at "dl"
  rw [nD_len, hT.len]
  exact bodyR hq
theorem sat_Table_eq : ∀ ds Q E', W_Table_eq ds Q E' → p_Table_eq (bodyEnds Q) (entry 2 ds) (fun e _ => E' e) := by
  rintro ds Q E' ⟨w, l, v, m, rfl, hT, hU, hq⟩
  unfold p_Table_eq
  walk_at "dl"
  by_cases h : w = v
  · subst h
    simp only [decide_true]
    refine roEq_nD ?_
    rw [Bool.false_xor]
    have e : decide (w = w ∧ l = m) = decide (l = m) := by simp
    rw [e] at hq
    exact bodyR hq
  · have e : decide ((w : Int) = v) = false := decide_eq_false (by omega)
    simp only [e]
    rw [decide_eq_false (fun z => h z.1)] at hq
    exact bodyR hq
theorem two_walk {op : List Nat → List Nat → List Nat} (g : Nat → Nat → Nat) (hop : op = List.zipWith g) (f : Int → Int → Int) (hf : ∀ a b : Nat, a ≤ 1 → b ≤ 1 → f a b = (g a b : Nat)) (hg : ∀ a b, a ≤ 1 → b ≤ 1 → g a b ≤ 1) {w : Nat} {l m : List Nat} {Q : Sl → Prop} {E : EC} (hT : TB w l) (hU : TB w m) (q : Q (.sh (tb w (op l m)))) :
    (wRet (wCall W_Table_init (wCons (wFld okT "wide" (wVar 0)) (wCons (wLc2 2 3 (wZip (wCons (wFld okT "held" (wVar 0)) (wCons (wFld okT "held" (wVar 1)) wNil))) wTrue (wOp (roI0 f) (wVar 2) (wVar 3))) wNil)))) (bodyEnds Q) [.sh (tb w l), .sh (tb w m), .un, .un] E := by
  walk_at "dl"
  simp only [wLc2]
  walk_at "dl"
  refine ⟨.un, .un, rfl, .inl rfl, rfl, .inl rfl, ?_⟩
  refine lcD2_zip g (fun a b => rfl) l m [] (fun a b ha hb Q0 E0 q0 => ?_) (by have := hT.le; simp only [List.length_nil]; omega) ?_
  · walk_at "dl"
    rw [hf a b (hT.bit a ha) (hU.bit b hb)]
    exact q0
  · intro p
    rw [List.nil_append]
    subst hop
    walk_at "dl"
    exact call_mk (hT.zip hU hg) (bodyR q)
theorem bx : ∀ a b : Nat, a ≤ 1 → b ≤ 1 → Builtin.bitXor (a : Int) b = ((a + b) % 2 : Nat) := by
  intro a b ha hb
  have h1 : a = 0 ∨ a = 1 := by omega
  have h2 : b = 0 ∨ b = 1 := by omega
  rcases h1 with rfl | rfl <;> rcases h2 with rfl | rfl <;> decide +kernel
theorem ba1 : ∀ a b : Nat, a ≤ 1 → b ≤ 1 → Builtin.bitAnd (a : Int) b = (a * b : Nat) := by
  intro a b ha hb
  have h1 : a = 0 ∨ a = 1 := by omega
  have h2 : b = 0 ∨ b = 1 := by omega
  rcases h1 with rfl | rfl <;> rcases h2 with rfl | rfl <;> decide +kernel
theorem ot_len : ("other" : Str).length ≤ 100000 := by decide +kernel
theorem sat_Table_add : ∀ ds Q E', W_Table_add ds Q E' → p_Table_add (bodyEnds Q) (entry 4 ds) (fun e _ => E' e) := by
  rintro ds Q E' ⟨w, l, v, m, rfl, hT, hU, h1, h2⟩
  unfold p_Table_add
  refine wSeq_k fun N1 hN1 => ?_
  walk_at "dl"
  refine hN1 _ ?_
  refine wSeq_k fun N2 hN2 => ?_
  walk_at "dl"
  by_cases h : w = v
  · subst h
    simp only [decide_true, Bool.not_true, Bool.false_eq_true, if_false]
    refine hN2 _ ?_
    refine wSeq_k fun N3 hN3 => ?_
    exact two_walk (fun a b => (a + b) % 2) rfl _ bx (fun a b _ _ => by omega) hT hU (h1 rfl)
  · have e : decide ((w : Int) = v) = false := decide_eq_false (by omega)
    simp only [e, Bool.not_false, if_true]
    exact ⟨ot_len, h2 h⟩
theorem sat_Table_and : ∀ ds Q E', W_Table_and ds Q E' → p_Table_and (bodyEnds Q) (entry 4 ds) (fun e _ => E' e) := by
  rintro ds Q E' ⟨w, l, v, m, rfl, hT, hU, h1, h2⟩
  unfold p_Table_and
  refine wSeq_k fun N1 hN1 => ?_
  walk_at "dl"
  refine hN1 _ ?_
  refine wSeq_k fun N2 hN2 => ?_
  walk_at "dl"
  by_cases h : w = v
  · subst h
    simp only [decide_true, Bool.not_true, Bool.false_eq_true, if_false]
    refine hN2 _ ?_
    refine wSeq_k fun N3 hN3 => ?_
    exact two_walk (fun a b => a * b) rfl _ ba1 (fun a b ha hb => Nat.mul_le_mul ha hb) hT hU (h1 rfl)
  · have e : decide ((w : Int) = v) = false := decide_eq_false (by omega)
    simp only [e, Bool.not_false, if_true]
    exact ⟨ot_len, h2 h⟩
theorem sat_Table_invert : ∀ ds Q E', W_Table_invert ds Q E' → p_Table_invert (bodyEnds Q) (entry 2 ds) (fun e _ => E' e) := by
  rintro ds Q E' ⟨w, l, rfl, hT, hq⟩
  unfold p_Table_invert
  walk_at "dl"
  refine ⟨.inl rfl, ?_⟩
  refine lcD_all (fun (n : Nat) => D.int n) (fun (n : Nat) => D.int (1 - n : Nat)) l (fun n hn Q0 E0 q => ?_) rfl (by have := hT.le; omega) fun p => ?_
  · walk_at "dl"
    have := hT.bit n hn
    have e : (1 : Int) - n = ((1 - n : Nat) : Int) := by omega
    rw [e]; exact q
  · have e : l.map (fun (n : Nat) => D.int (1 - n : Nat)) = nD (invL l) := by unfold nD invL; rw [List.map_map]; rfl
    rw [e]
    exact call_mk hT.inv (bodyR hq)
theorem nS_len {l : List Nat} (h : ∀ b ∈ l, b ≤ 1) : ((nS l).map (·.length)).sum = l.length := by
  induction l with
  | nil => rfl
  | cons b l ih =>
    have h1 := h b List.mem_cons_self
    have h2 : b = 0 ∨ b = 1 := by omega
    show (intS b).length + ((nS l).map (·.length)).sum = _
    rw [ih fun c hc => h c (List.mem_cons_of_mem _ hc), List.length_cons]
    have : (intS (b : Int)).length = 1 := by rcases h2 with rfl | rfl <;> decide +kernel
    omega
theorem intS_6 : ∀ w : Nat, w < 7 → (intS (w : Int)).length = 1 := by decide +kernel
theorem joinL_nil : ∀ ps : List (List Nat), TL.joinL [] ps = ps.flatten
  | [] => rfl
  | [p] => by show p = _; simp
  | p :: q :: r => by
    show p ++ ([] ++ TL.joinL [] (q :: r)) = _
    rw [joinL_nil (q :: r)]; simp
theorem tl_bits {l : List Nat} (h : ∀ b ∈ l, b ≤ 1) : tl (Txt.join "" (nS l)) = l.map (48 + ·) := by
  rw [TL.join_eq]
  refine (TL.tl_join "" (nS l)).trans ?_
  have e0 : TL.tl ("" : Str) = [] := rfl
  rw [e0, joinL_nil]
  induction l with
  | nil => rfl
  | cons b l ih =>
    have h1 := h b List.mem_cons_self
    have h2 : b = 0 ∨ b = 1 := by omega
    show TL.tl (intS b) ++ ((nS l).map TL.tl).flatten = _
    rw [ih fun c hc => h c (List.mem_cons_of_mem _ hc)]
    have : TL.tl (intS (b : Int)) = [48 + b] := by rcases h2 with rfl | rfl <;> decide +kernel
    rw [this]; rfl
/-- texts of a row of numbers, joined; the slots as they were -/
theorem join_numsR {i : Nat} {z : Str} {l : List Nat} {ρ : DEnv} {Q : Str → Prop} (hl : ∀ n ∈ l, n ≤ 1000) (hs : ((nS l).map (·.length)).sum + (nS l).length * z.length ≤ 16777216) (h0 : l.length ≤ 1000) (hi : ρ[i]? = some .un) (q : Q (Txt.join z (nS l))) :
    lcD i wTrue (wStr (wCons (wVar i) wNil)) (fun acc ρ2 => ρ2 = ρ ∧ ∃ ys : List Str, acc = ys.map D.str ∧ (ys.map (·.length)).sum + ys.length * z.length ≤ 16777216 ∧ Q (Txt.join z ys)) (nD l) [] ρ := by
  have hil : i < ρ.length := (List.getElem?_eq_some_iff.mp hi).1
  have hun : ρ.set i .un = ρ := by
    have e := (List.getElem?_eq_some_iff.mp hi).2
    conv => lhs; rw [← e]
    exact List.set_getElem_self hil
  refine lcD_all (fun (n : Nat) => D.int n) (fun (n : Nat) => D.str (intS n)) l (fun n hn Q0 E0 q0 => ?_) hun (by omega) ⟨rfl, nS l, ?_, hs, q⟩
  · have e : (ρ.set i (.sh (.int n)))[i]? = some (.sh (.int n)) := by rw [List.getElem?_set_self hil]
    show wStr (wCons (wVar i) wNil) _ Q0 E0
    unfold wStr wFun wCons wVar wNil
    rw [e]
    simp only [roF, datas, List.map_cons, List.map_nil, pStr, fStr, dat_sh, List.set_set]
    exact ⟨wd_small (hl n hn), q0⟩
  · unfold nS
    rw [List.map_map]
    rfl
theorem sat_Table_str : ∀ ds Q E', W_Table_str ds Q E' → p_Table_str (bodyEnds Q) (entry 3 ds) (fun e _ => E' e) := by
  rintro ds Q E' ⟨w, l, rfl, hT, hq⟩
  unfold p_Table_str
  refine wSeq_k fun N1 hN1 => ?_
  walk_at "dl"
  have ln : (nS l).length = l.length := by unfold nS; rw [List.length_map]
  have h64 := hT.le
  have e0 : ("" : Str).length = 0 := rfl
  refine ⟨.inl rfl, ?_⟩
  refine lcD_mono (i := 2) (wt := wTrue) (we := wStr (wCons (wVar 2) wNil)) wTrue_mono (wFun_mono roF_mono (wCons_mono wVar_mono (fun _ _ _ _ _ hq _ h => hq _ _ h))) (fun acc ρ2 k p => ?_) _ _ _ (join_numsR (i := 2) (z := "") (l := l) (Q := fun s => N1 [.sh (tb w l), .sh (.str s), .un]) (fun n hn => by have := hT.bit n hn; omega) (by rw [nS_len hT.bit, e0]; omega) (by omega) rfl (hN1 _ ?_))
  · obtain ⟨rfl, k⟩ := k; exact k
  · walk_at "dl"
    have lj : (Txt.join "" (nS l)).length = l.length := by rw [tl_len, tl_bits hT.bit, List.length_map]
    have lw := intS_6 w (by have := hT.w6; omega)
    have lc : (":" : Str).length = 1 := rfl
    exact ⟨wd_small (by have := hT.w6; omega), _, rfl, by rw [lw, lc, sizeLine_eq]; decide, (show (Txt.join "" (nS l)).length ≤ 100000 by omega), _, rfl, by rw [lw, lc, lj, sizeLine_eq]; omega, bodyR hq⟩
end C
set_option Elab.async false
set_option maxRecDepth 100000
set_option maxHeartbeats 1000000
set_option linter.unusedVariables false
namespace C
open PySem PySem.Spec PyProof.Rows L2 NdefX DL
local macro_rules | `(tactic| walk_at "dl") => `(tactic| simp only [wSeq, wLc, wTrue, wRaise0, wRaiseL, wSplit, wJoin, wFs, wSlS1, wSlS2, wAug, wItemsC, wEnum, pStr, fStr, pIntS, fIntS, roInS, orF, NoExc, dgTwo, wItemsT, wSlS0, wIsdig, roMulS, roInL, wIndexS, wSum, pSum, fSum, lk_wide, lk_held, okT_T, wFld, wGet, wMeth, wOwn2, wOwnI, wOwn1, wOwnLen, wOwnStr, wRevT, wZip, wItemsLT, wTupD, wLstD, wMv, isOwn, insOf, iStm, iFld, iEnd, pSumT, fSumT, wNever, tb, eq_self, exists_eq_left', Option.some.injEq,  wIf, wNext, wBreak, wCont, wRet, wRetN, wDrop, wSet, wTest, wAndB, wOrB, wNotB, wIsi, wVar, wC, wOp, wRaise, wCall, wCons, wNil, wFun, wPar, wTup, wNeg, wUn, wIfE, wAndV, wOrV, wNotV, wUnp2, wLst, wIxO, wLenO, wSetIx, wAppend, wDic0, wFor, wItemsL, wItemsS, wRng1, wRng2, wListRev, dgName, roAdd, roI, roI0, roB, roIx, roIsN, roF, roL, datas, List.map_cons, List.map_nil, entry, List.length_cons, List.length_nil, List.cons_append, List.nil_append, List.replicate, List.replicate_succ, List.replicate_zero, Nat.reduceAdd, Nat.reduceSub, Nat.zero_add,
  List.getElem?_cons_zero, List.getElem?_cons_succ, List.set_cons_zero, List.set_cons_succ, dat_sh, dat_ow, dat_dp, DL.isInt, DL.isBool, DL.isStr, DL.isLst, DL.isTup, PinD, Bool.not_true, Bool.not_false, Bool.false_eq_true, if_true, if_false, true_and, and_true, OkAD, bodyEnds, pInt1, pInt2, fAbs, fMin, fMax, pIntOf, fIntOf, pLen, fLen, pSeq, fSeq, reduceIte, decide_eq_true_eq, ite_true, ite_false, Bool.and_eq_true, Bool.not_eq_true', roEq_int, Bool.true_xor, Bool.false_xor, Bool.true_eq_false])
/-- a comprehension, what is known of its items alone; J the slots at each turn -/
theorem lcD_J {P : D → Prop} (J : DEnv → Prop) {i : Nat} {we : DT Sl} {R : List D → DEnv → Prop} : ∀ (ds acc : List D) (ρ : DEnv), J ρ →
    (∀ d ∈ ds, ∀ ρ, J ρ → ∀ (Q : Sl → DEnv → Prop) (E : EC), (∀ y ρ2, P y.dat → J (ρ2.set i .un) → Q y ρ2) → we (ρ.set i (.sh d)) Q E) → acc.length + ds.length ≤ 100000 →
    (∀ ys ρ, J ρ → ys.length = ds.length → (∀ y ∈ ys, P y) → R (acc ++ ys) ρ) → lcD i wTrue we R ds acc ρ
  | [], acc, ρ, hj, _, _, h => by
    have := h [] ρ hj rfl (fun y hy => by cases hy)
    rw [List.append_nil] at this
    exact this
  | d :: ds, acc, ρ, hj, he, hl, h => by
    have l2 : acc.length + (ds.length + 1) ≤ 100000 := hl
    unfold lcD wTrue
    simp only [if_true]
    refine he d List.mem_cons_self ρ hj _ _ fun y ρ2 hp hj2 => ⟨by rw [sizeLine_eq]; omega, ?_⟩
    refine lcD_J J ds _ _ hj2 (fun d' hd => he d' (List.mem_cons_of_mem _ hd)) (by rw [List.length_append]; simp only [List.length_cons, List.length_nil]; omega) fun ys ρ3 hj3 hys hP => ?_
    rw [List.append_assoc]
    refine h (y.dat :: ys) ρ3 hj3 (by rw [List.length_cons, List.length_cons, hys]) fun z hz => ?_
    rcases List.mem_cons.mp hz with rfl | hz
    · exact hp
    · exact hP z hz
/-- a bit -/
def isBt (d : D) : Prop := ∃ b : Nat, b ≤ 1 ∧ d = .int b
theorem isBt_row : ∀ {ys : List D}, (∀ y ∈ ys, isBt y) → ∃ l : List Nat, ys = nD l ∧ ∀ b ∈ l, b ≤ 1
  | [], _ => ⟨[], rfl, fun b hb => by cases hb⟩
  | y :: ys, h => by
    obtain ⟨b, hb, rfl⟩ := h y List.mem_cons_self
    obtain ⟨l, rfl, hl⟩ := isBt_row (ys := ys) fun z hz => h z (List.mem_cons_of_mem _ hz)
    exact ⟨b :: l, rfl, fun c hc => by
      rcases List.mem_cons.mp hc with rfl | hc
      · exact hb
      · exact hl c hc⟩
theorem isBt_01 {i : Int} (h : i = 0 ∨ i = 1) : isBt (.int i) := by
  rcases h with rfl | rfl
  · exact ⟨0, by decide, rfl⟩
  · exact ⟨1, by decide, rfl⟩
theorem rangeD_mem {n : Nat} {d : D} (h : d ∈ rangeD 0 n) : ∃ x : Nat, x < n ∧ d = .int x := by
  rw [rangeD_map] at h
  obtain ⟨x, hx, rfl⟩ := List.mem_map.mp h
  exact ⟨x, List.mem_range.mp hx, rfl⟩
theorem rangeD_len {n : Nat} : (rangeD 0 n).length = n := by rw [rangeD_map, List.length_map, List.length_range]
/-- .. over the words of a width, its items bits -/
theorem lc_words {w : Nat} (hw : w ≤ 6) (J : DEnv → Prop) {i : Nat} {we : DT Sl} {R : List D → DEnv → Prop} {ρ : DEnv} (hj : J ρ)
    (he : ∀ x : Nat, x < 2 ^ w → ∀ ρ, J ρ → ∀ (Q : Sl → DEnv → Prop) (E : EC), (∀ y ρ2, isBt y.dat → J (ρ2.set i .un) → Q y ρ2) → we (ρ.set i (.sh (.int x))) Q E) (h : ∀ l ρ, J ρ → TB w l → R (nD l) ρ) : lcD i wTrue we R (rangeD 0 (2 ^ w)) [] ρ := by
  have p64 : 2 ^ w ≤ 64 := Nat.pow_le_pow_right (n := 2) (by decide) hw
  refine lcD_J (P := isBt) J _ _ _ hj (fun d hd ρ hj Q E hq => ?_) (by rw [rangeD_len]; simp only [List.length_nil]; omega) fun ys ρ hj hl hP => ?_
  · obtain ⟨x, hx, rfl⟩ := rangeD_mem hd
    exact he x hx ρ hj Q E hq
  · obtain ⟨l, rfl, hb⟩ := isBt_row hP
    rw [nD_len, rangeD_len] at hl
    rw [List.nil_append]
    exact h l ρ hj ⟨hw, hl, hb⟩
theorem band_n (a b : Nat) : Builtin.bitAnd (a : Int) (b : Int) = ((a &&& b : Nat) : Int) := by
  rw [bitAnd_pp (by omega) (by omega), Int.toNat_natCast, Int.toNat_natCast]
theorem bt_le (m p : Nat) : bt m p ≤ 1 := by have := Nat.mod_lt (m / 2 ^ p) (show 0 < 2 by decide); show m / 2 ^ p % 2 ≤ 1; omega
theorem bit_01 (m p : Nat) : Builtin.bitAnd ((m : Int) / 2 ^ p) 1 = 0 ∨ Builtin.bitAnd ((m : Int) / 2 ^ p) 1 = 1 := by
  rw [bit_d]
  have := bt_le m p
  omega
theorem xor_01 {i j : Int} (hi : i = 0 ∨ i = 1) (hj : j = 0 ∨ j = 1) : Builtin.bitXor i j = 0 ∨ Builtin.bitXor i j = 1 := by
  rcases hi with rfl | rfl <;> rcases hj with rfl | rfl <;> decide +kernel
/-! ### sizes and parities -/
def preN (m k : Nat) : Nat := ((List.range k).map (bt m)).sum
theorem preN_succ (m k : Nat) : preN m (k + 1) = preN m k + bt m k := by
  unfold preN
  rw [List.range_succ, List.map_append, List.sum_append]; simp
theorem preN_stop {m k : Nat} (h : m / 2 ^ k < 2) : ∀ n, preN m (k + 1 + n) = preN m (k + 1)
  | 0 => rfl
  | n + 1 => by
    rw [← Nat.add_assoc, preN_succ, preN_stop h n]
    have : m / 2 ^ (k + 1 + n) = 0 := by
      rw [Nat.div_eq_zero_iff]
      right
      have h2 : m < 2 ^ (k + 1) := by
        rw [Nat.pow_succ]
        have h3 := Nat.div_add_mod m (2 ^ k)
        have h4 := Nat.mod_lt m (Nat.two_pow_pos k)
        have h5 : 2 ^ k * (m / 2 ^ k) ≤ 2 ^ k * 1 := Nat.mul_le_mul_left _ (by omega)
        omega
      exact Nat.lt_of_lt_of_le h2 (Nat.pow_le_pow_right (by decide) (by omega))
    show preN m (k + 1) + m / 2 ^ (k + 1 + n) % 2 = _
    rw [this]; rfl
theorem sat_law_size : ∀ ds Q E', W_law_size ds Q E' → p_law_size (bodyEnds Q) (entry 3 ds) (fun e _ => E' e) := by
  rintro ds Q E' ⟨m, rfl, hm, hq⟩
  unfold p_law_size
  refine wSeq_k fun N1 hN1 => ?_
  walk_at "dl"
  refine hN1 _ ?_
  refine wSeq_k fun N2 hN2 => ?_
  walk_at "dl"
  refine ⟨⟨by decide, by decide⟩, ?_⟩
  have fin : ∀ x, N2 [.sh (.int m), .sh (.int (popN m)), x] := fun x => by
    refine hN2 _ ?_
    walk_at "dl"
    exact bodyR hq
  have e20 : Int.toNat 20 = 20 := rfl
  rw [e20]
  refine forD_rng (n := 20) (fun k ρ => ∃ x, ρ = [.sh (.int m), .sh (.int (preN m k)), x]) ?_ ?_ ⟨_, rfl⟩
  · rintro ρ ⟨x, rfl⟩
    exact fin x
  · rintro k ρ hk ⟨x, rfl⟩ K hK
    walk_at "dl"
    refine ⟨by omega, ?_⟩
    rw [Int.toNat_natCast, bit_d]
    refine ⟨by omega, ?_⟩
    have e : (preN m k : Int) + (bt m k : Nat) = (preN m (k + 1) : Nat) := by rw [preN_succ]; omega
    rw [e]
    by_cases h : (m : Int) / 2 ^ k < 2
    · rw [if_pos h]
      have h2 : m / 2 ^ k < 2 := by
        have e3 : ((m / 2 ^ k : Nat) : Int) = (m : Int) / 2 ^ k := by rw [Int.natCast_ediv, Int.natCast_pow]; rfl
        omega
      have e4 : preN m (k + 1) = popN m := by
        have := preN_stop h2 (20 - (k + 1))
        have e5 : k + 1 + (20 - (k + 1)) = 20 := by omega
        rw [e5] at this
        exact this.symm
      rw [e4]
      exact fin _
    · rw [if_neg h]
      exact hK _ ⟨_, rfl⟩
theorem call_size {m : Nat} {Q : Sl → Prop} {E : Er → Prop} (hm : m < 2 ^ 20) (q : Q (.sh (.int (popN m)))) : W_law_size [.int m] Q E := ⟨m, rfl, hm, q⟩
theorem sat_law_parity : ∀ ds Q E', W_law_parity ds Q E' → p_law_parity (bodyEnds Q) (entry 2 ds) (fun e _ => E' e) := by
  rintro ds Q E' ⟨a, b, rfl, ha, hq⟩
  unfold p_law_parity
  walk_at "dl"
  rw [band_n]
  refine call_size (Nat.lt_of_le_of_lt Nat.and_le_left ha) ?_
  walk_at "dl"
  refine ⟨(show (2 : Int) ≠ 0 by decide), ?_⟩
  have e : ((popN (a &&& b) : Nat) : Int).fmod 2 = ((popN (a &&& b) % 2 : Nat) : Int) := by
    rw [Int.fmod_eq_emod_of_nonneg _ (by decide), Int.natCast_emod]; rfl
  rw [e]
  exact bodyR hq
theorem call_par {a b : Nat} {Q : Sl → Prop} {E : Er → Prop} (ha : a < 2 ^ 20) (q : Q (.sh (.int (popN (a &&& b) % 2 : Nat)))) : W_law_parity [.int a, .int b] Q E := ⟨a, b, rfl, ha, q⟩
theorem par_01 (m : Nat) : ((m % 2 : Nat) : Int) = 0 ∨ ((m % 2 : Nat) : Int) = 1 := by have := Nat.mod_lt m (show 0 < 2 by decide); omega
theorem sat_law_width : ∀ ds Q E', W_law_width ds Q E' → p_law_width (bodyEnds Q) (entry 4 ds) (fun e _ => E' e) := by
  rintro ds Q E' ⟨⟨lo, hi, rfl, hlh, h6⟩, h, _⟩
  have hq : ∀ w : Nat, lo ≤ w → w ≤ hi → Q (.sh (.int w)) := fun w h1 h2 => h _ ⟨lo, hi, w, rfl, rfl, h1, h2⟩
  unfold p_law_width
  refine wSeq_k fun N1 hN1 => ?_
  walk_at "dl"
  intro p
  refine call_take bd_lit fun r r0 r1 => ?_
  obtain ⟨x, hx, e⟩ := atD_in (l := [D.int 0, .int 1, .int 1, .int 2, .int 2, .int 2, .int 3, .int 3, .int 3, .int 3, .int 4, .int 4, .int 4, .int 5, .int 5, .int 6]) r0 (by simp only [List.length_cons, List.length_nil]; omega)
  have hx2 : ∃ v : Nat, x = .int v := by
    simp only [List.mem_cons, List.not_mem_nil, or_false] at hx
    rcases hx with rfl | rfl | rfl | rfl | rfl | rfl | rfl | rfl | rfl | rfl | rfl | rfl | rfl | rfl | rfl | rfl
    · exact ⟨0, rfl⟩
    · exact ⟨1, rfl⟩
    · exact ⟨1, rfl⟩
    · exact ⟨2, rfl⟩
    · exact ⟨2, rfl⟩
    · exact ⟨2, rfl⟩
    · exact ⟨3, rfl⟩
    · exact ⟨3, rfl⟩
    · exact ⟨3, rfl⟩
    · exact ⟨3, rfl⟩
    · exact ⟨4, rfl⟩
    · exact ⟨4, rfl⟩
    · exact ⟨4, rfl⟩
    · exact ⟨5, rfl⟩
    · exact ⟨5, rfl⟩
    · exact ⟨6, rfl⟩
  obtain ⟨v, rfl⟩ := hx2
  refine ⟨_, e, hN1 _ ?_⟩
  walk_at "dl"
  have em : max (lo : Int) (min (hi : Int) (v : Int)) = ((max lo (min hi v) : Nat) : Int) := by omega
  rw [em]
  exact bodyR (hq _ (by omega) (by omega))
theorem sat_law_word : ∀ ds Q E', W_law_word ds Q E' → p_law_word (bodyEnds Q) (entry 5 ds) (fun e _ => E' e) := by
  rintro ds Q E' ⟨⟨w, rfl, hw⟩, h, _⟩
  have hq : ∀ i : Int, 0 ≤ i → i < 2 ^ w → ∃ y, Cv (Sl.sh (.int i)) y ∧ Q y := fun i h0 h1 => by
    obtain ⟨m, rfl⟩ : ∃ m : Nat, i = m := ⟨i.toNat, by omega⟩
    have := pow_i w
    exact bodyR (h _ ⟨w, m, rfl, rfl, by omega⟩)
  have p1 : (1 : Int) ≤ 2 ^ w := by have := pow_i w; have := Nat.one_le_two_pow (n := w); omega
  have p2 : (2 : Int) ^ w ≤ 64 := by
    have h := Nat.pow_le_pow_right (n := 2) (by decide) hw
    have := pow_i w
    omega
  have bP : Bd 8999 ((2 : Int) ^ w) := by
    have : Bd 7 ((2 : Int) ^ w) := by unfold Bd; omega
    exact bd_mono this (by decide)
  unfold p_law_word
  refine wSeq_k fun N1 hN1 => ?_
  walk_at "dl"
  refine ⟨⟨by omega, by omega, by decide⟩, hN1 _ ?_⟩
  rw [Int.toNat_natCast, Int.one_mul]
  refine wSeq_k fun N2 hN2 => ?_
  walk_at "dl"
  refine call_take bd_lit fun r r0 r1 => hN2 _ ?_
  refine wSeq_k fun N3 hN3 => ?_
  walk_at "dl"
  by_cases h2 : r < 2
  · rw [if_pos h2]
    intro p
    have r01 : r = 0 ∨ r = 1 := by omega
    rcases r01 with rfl | rfl
    · exact ⟨_, atD_0, hq 0 (by omega) (by omega)⟩
    · exact ⟨_, atD_1, hq _ (by omega) (by omega)⟩
  · rw [if_neg h2]
    refine hN3 _ ?_
    refine wSeq_k fun N4 hN4 => ?_
    walk_at "dl"
    by_cases h4 : r < 4
    · rw [if_pos h4]
      by_cases h0 : (0 : Int) < w
      · rw [if_pos h0]
        refine call_take (by have : Bd 3 (w : Int) := (by unfold Bd; omega); exact bd_mono this (by decide)) fun q q0 q1 => ?_
        try walk_at "dl"
        obtain ⟨k, rfl⟩ : ∃ k : Nat, q = k := ⟨q.toNat, by omega⟩
        rw [Int.toNat_natCast, Int.one_mul]
        have hk : k < w := by omega
        have p3 : (1 : Int) ≤ 2 ^ k := by have := pow_i k; have := Nat.one_le_two_pow (n := k); omega
        have p4 : (2 : Int) ^ k < 2 ^ w := by
          have h := Nat.pow_lt_pow_right (a := 2) (by decide) hk
          have := pow_i k
          have := pow_i w
          omega
        refine ⟨⟨by omega, by omega, by decide⟩, fun p => ?_⟩
        have r23 : r = 2 ∨ r = 3 := by omega
        rcases r23 with rfl | rfl
        · exact ⟨_, atD_0, hq _ (by omega) (by omega)⟩
        · exact ⟨_, atD_1, hq _ (by omega) (by omega)⟩
      · rw [if_neg h0]
        refine hN4 _ ?_
        walk_at "dl"
        have e : (2 : Int) ^ w - 1 + 1 = 2 ^ w := by omega
        rw [e]
        exact call_take bP fun q q0 q1 => hq _ q0 (by omega)
    · rw [if_neg h4]
      refine hN4 _ ?_
      walk_at "dl"
      have e : (2 : Int) ^ w - 1 + 1 = 2 ^ w := by omega
      rw [e]
      exact call_take bP fun q q0 q1 => hq _ q0 (by omega)
end C
set_option Elab.async false
set_option maxRecDepth 100000
set_option maxHeartbeats 1000000
set_option linter.unusedVariables false
namespace C
open PySem PySem.Spec PyProof.Rows L2 NdefX DL
local macro_rules | `(tactic| walk_at "dl") => `(tactic| simp only [wSeq, wLc, wTrue, wRaise0, wRaiseL, wSplit, wJoin, wFs, wSlS1, wSlS2, wAug, wItemsC, wEnum, pStr, fStr, pIntS, fIntS, roInS, orF, NoExc, dgTwo, wItemsT, wSlS0, wIsdig, roMulS, roInL, wIndexS, wSum, pSum, fSum, lk_wide, lk_held, okT_T, wFld, wGet, wMeth, wOwn2, wOwnI, wOwn1, wOwnLen, wOwnStr, wRevT, wZip, wItemsLT, wTupD, wLstD, wMv, isOwn, insOf, iStm, iFld, iEnd, pSumT, fSumT, wNever, tb, eq_self, exists_eq_left', Option.some.injEq,  wIf, wNext, wBreak, wCont, wRet, wRetN, wDrop, wSet, wTest, wAndB, wOrB, wNotB, wIsi, wVar, wC, wOp, wRaise, wCall, wCons, wNil, wFun, wPar, wTup, wNeg, wUn, wIfE, wAndV, wOrV, wNotV, wUnp2, wLst, wIxO, wLenO, wSetIx, wAppend, wDic0, wFor, wItemsL, wItemsS, wRng1, wRng2, wListRev, dgName, roAdd, roI, roI0, roB, roIx, roIsN, roF, roL, datas, List.map_cons, List.map_nil, entry, List.length_cons, List.length_nil, List.cons_append, List.nil_append, List.replicate, List.replicate_succ, List.replicate_zero, Nat.reduceAdd, Nat.reduceSub, Nat.zero_add,
  List.getElem?_cons_zero, List.getElem?_cons_succ, List.set_cons_zero, List.set_cons_succ, dat_sh, dat_ow, dat_dp, DL.isInt, DL.isBool, DL.isStr, DL.isLst, DL.isTup, PinD, Bool.not_true, Bool.not_false, Bool.false_eq_true, if_true, if_false, true_and, and_true, OkAD, bodyEnds, pInt1, pInt2, fAbs, fMin, fMax, pIntOf, fIntOf, pLen, fLen, pSeq, fSeq, reduceIte, decide_eq_true_eq, ite_true, ite_false, Bool.and_eq_true, Bool.not_eq_true', roEq_int, Bool.true_xor, Bool.false_xor, Bool.true_eq_false])
theorem lc_wordsE {w : Nat} (hw : w ≤ 6) {i : Nat} {we : DT Sl} {R : List D → DEnv → Prop} {ρ : DEnv}
    (he : ∀ x : Nat, x < 2 ^ w → ∀ (Q : Sl → DEnv → Prop) (E : EC), (∀ y ρ2, isBt y.dat → ρ2.set i .un = ρ → Q y ρ2) → we (ρ.set i (.sh (.int x))) Q E) (h : ∀ l, TB w l → R (nD l) ρ) : lcD i wTrue we R (rangeD 0 (2 ^ w)) [] ρ :=
  lc_words hw (fun ρ' => ρ' = ρ) rfl (fun x hx ρ' e Q E q => by subst e; exact he x hx Q E q) (fun l ρ' e hT => by subst e; exact h l hT)
/-- what the two powers are -/
theorem pw_facts {w : Nat} (hw : w ≤ 6) : (1 : Int) ≤ 2 ^ w ∧ (2 : Int) ^ w ≤ 64 ∧ ((2 : Int) ^ w).toNat = 2 ^ w ∧ Bd 8999 ((2 : Int) ^ w) ∧ ((2 ^ w : Nat) : Int) = 2 ^ w := by
  have h := pow_i w
  have h1 := Nat.one_le_two_pow (n := w)
  have h2 := Nat.pow_le_pow_right (n := 2) (by decide) hw
  refine ⟨by omega, by omega, by omega, ?_, h⟩
  have : Bd 7 ((2 : Int) ^ w) := by unfold Bd; omega
  exact bd_mono this (by decide)
theorem i01 {p : Prop} [Decidable p] : ((if p then 1 else 0 : Int) = 0 ∨ (if p then 1 else 0 : Int) = 1) := by by_cases h : p <;> simp [h]
theorem set_bit {l : List Nat} {i : Nat} {b : Nat} {w : Nat} (h : TB w l) (hb : b ≤ 1) : TB w (l.set i b) := ⟨h.w6, by rw [List.length_set]; exact h.len, fun c hc => by
  rcases List.mem_or_eq_of_mem_set hc with hc | rfl
  · exact h.bit c hc
  · exact hb⟩
theorem nD_set (l : List Nat) (i b : Nat) : (nD l).set i (.int b) = nD (l.set i b) := by unfold nD; rw [List.map_set]
theorem ix_in {n : Nat} {i : Int} (h0 : 0 ≤ i) (h1 : i < n) : ixN n i = some i.toNat := by unfold ixN; rw [if_pos h0, if_pos h1]
theorem lcD_E {P : D → Prop} {i : Nat} {we : DT Sl} {R : List D → DEnv → Prop} {ρ : DEnv} {ds : List D} (he : ∀ d ∈ ds, ∀ (Q : Sl → DEnv → Prop) (E : EC), (∀ y ρ2, P y.dat → ρ2.set i .un = ρ → Q y ρ2) → we (ρ.set i (.sh d)) Q E) (hl : ds.length ≤ 100000) (h : ∀ ys, ys.length = ds.length → (∀ y ∈ ys, P y) → R ys ρ) : lcD i wTrue we R ds [] ρ :=
  lcD_J (P := P) (fun ρ' => ρ' = ρ) ds [] ρ rfl (fun d hd ρ' e Q E q => by subst e; exact he d hd Q E q) (by simpa using hl) (fun ys ρ' e h1 h2 => by subst e; rw [List.nil_append]; exact h ys h1 h2)
def isNm (d : D) : Prop := ∃ i : Int, d = .int i
theorem isNm_row : ∀ {ys : List D}, (∀ y ∈ ys, isNm y) → ∃ ns : List Int, ys = ns.map D.int
  | [], _ => ⟨[], rfl⟩
  | y :: ys, h => by
    obtain ⟨b, rfl⟩ := h y List.mem_cons_self
    obtain ⟨l, rfl⟩ := isNm_row (ys := ys) fun z hz => h z (List.mem_cons_of_mem _ hz)
    exact ⟨b :: l, rfl⟩
theorem atD_ints {ns : List Int} {k : Nat} (h : k < ns.length) : ∃ i, atD (ns.map D.int) (k : Int) = some (.int i) := by
  refine ⟨ns[k], ?_⟩
  unfold atD atI
  rw [ix_in (by omega) (by rw [List.length_map]; omega), Int.toNat_natCast]
  show (ns.map D.int)[k]? = _
  rw [List.getElem?_map, List.getElem?_eq_getElem h]; rfl
theorem sat_law_bits_of : ∀ ds Q E', W_law_bits_of ds Q E' → p_law_bits_of (bodyEnds Q) (entry 15 ds) (fun e _ => E' e) := by
  rintro ds Q E' ⟨⟨w, k, rfl, hw, hk⟩, h, _⟩
  have hqo : ∀ p l, TB w l → ∃ y, Cv (Sl.ow p (nD l)) y ∧ Q y := fun p l hT => ⟨_, .sh _ (fun z => by cases z), h _ ⟨w, [.int k], l, rfl, rfl, hT⟩⟩
  obtain ⟨p1, p2, p3, p4, p5⟩ := pw_facts hw
  have n64 : 2 ^ w ≤ 64 := by omega
  unfold p_law_bits_of
  refine wSeq_k fun N1 hN1 => ?_
  walk_at "dl"
  rw [Int.toNat_natCast, Int.one_mul]
  refine ⟨⟨by omega, by omega, by decide⟩, hN1 _ ?_⟩
  refine wSeq_k fun N2 hN2 => ?_
  walk_at "dl"
  by_cases k9 : (k : Int) = 9
  · rw [if_pos k9]
    refine ⟨⟨w, rfl, hw⟩, fun z ⟨w', r, l, e, ez, hT⟩ => ?_, fun _ z => z.elim⟩
    cases e
    subst ez
    exact bodyR (h _ ⟨w, [.int k], l, rfl, rfl, hT⟩)
  rw [if_neg k9]
  refine hN2 _ ?_
  refine wSeq_k fun N3 hN3 => ?_
  walk_at "dl"
  refine call_take p4 fun r r0 r1 => hN3 _ ?_
  obtain ⟨m, rfl⟩ : ∃ m : Nat, r = m := ⟨r.toNat, by omega⟩
  have hm : m < 2 ^ w := by omega
  have hm20 : m < 2 ^ 20 := by omega
  refine wSeq_k fun N4 hN4 => ?_
  walk_at "dl"
  refine call_take bd_lit fun t t0 t1 => hN4 _ ?_
  have t01 : t = 0 ∨ t = 1 := by omega
  -- 0
  refine wSeq_k fun M0 hM0 => ?_
  walk_at "dl"
  by_cases k0 : (k : Int) = 0
  · rw [if_pos k0]
    refine ⟨⟨by omega, by omega⟩, .inl rfl, ?_⟩
    rw [p3]
    refine lc_wordsE hw (fun x hx Q0 E0 q0 => ?_) fun l hT p => hqo p l hT
    walk_at "dl"
    exact q0 _ _ (isBt_01 t01) rfl
  rw [if_neg k0]
  refine hM0 _ ?_
  -- 1
  refine wSeq_k fun M1 hM1 => ?_
  walk_at "dl"
  by_cases k1 : (k : Int) = 1
  · rw [if_pos k1]
    refine ⟨⟨by omega, by omega⟩, .inl rfl, ?_⟩
    rw [p3]
    refine lc_wordsE hw (fun x hx Q0 E0 q0 => ?_) fun l hT p => hqo p l hT
    walk_at "dl"
    refine call_par hm20 ?_
    walk_at "dl"
    exact q0 _ _ (isBt_01 (xor_01 (par_01 _) t01)) rfl
  rw [if_neg k1]
  refine hM1 _ ?_
  -- 2
  refine wSeq_k fun M2 hM2 => ?_
  walk_at "dl"
  by_cases k2 : (k : Int) = 2
  · rw [if_pos k2]
    refine ⟨⟨by omega, by omega⟩, .inl rfl, ?_⟩
    rw [p3]
    refine lc_wordsE hw (fun x hx Q0 E0 q0 => ?_) fun l hT p => ?_
    · walk_at "dl"
      exact call_par hm20 (q0 _ _ (isBt_01 (par_01 _)) rfl)
    walk_at "dl"
    have f4 : ((2 : Int) ^ w).fdiv 4 = 2 ^ w / 4 := Int.fdiv_eq_ediv_of_nonneg _ (by decide)
    rw [f4]
    refine ⟨⟨by decide, by decide⟩, call_take (by have : Bd 6 ((2 : Int) ^ w / 4 + 1) := (by unfold Bd; omega); exact bd_mono this (by decide)) fun r r0 r1 => ?_⟩
    walk_at "dl"
    refine ⟨⟨by omega, by omega⟩, ?_⟩
    refine forD_ind (fun ds ρ => ∃ l x y, TB w l ∧ ρ = [.sh .sto, .sh (.int w), .sh (.int k), .sh (.int (2 ^ w)), .sh (.int m), .sh (.int t), .ow p (nD l), x, y, .un, .un, .un, .un, .un, .un]) ?_ ?_ _ _ ⟨l, _, _, hT, rfl⟩
    · rintro ρ ⟨l, x, y, hT, rfl⟩
      walk_at "dl"
      exact ⟨_, .sh _ (fun z => by cases z), h _ ⟨w, [.int k], l, rfl, rfl, hT⟩⟩
    · rintro d ds ρ ⟨l, x, y, hT, rfl⟩ K hK
      walk_at "dl"
      refine call_take p4 fun a a0 a1 => ?_
      have ha : a < l.length := by have := hT.len; omega
      try walk_at "dl"
      refine ⟨_, atD_nD a0 ha, ?_⟩
      try walk_at "dl"
      refine ⟨_, ix_in a0 (by rw [nD_len]; exact ha), hK _ ⟨l.set a.toNat (1 - l.getD a.toNat 0), .sh d, .sh (.int a), set_bit hT (by omega), ?_⟩⟩
      have e : (1 : Int) - (l.getD a.toNat 0 : Nat) = ((1 - l.getD a.toNat 0 : Nat) : Int) := by
        have hl : a.toNat < l.length := by omega
        have : l.getD a.toNat 0 ≤ 1 := by rw [List.getD_eq_getElem?_getD, List.getElem?_eq_getElem hl]; exact hT.bit _ (List.getElem_mem hl)
        omega
      rw [e, nD_set]
  rw [if_neg k2]
  refine hM2 _ ?_
  -- 3
  refine wSeq_k fun M3 hM3 => ?_
  walk_at "dl"
  by_cases k3 : (k : Int) = 3
  · rw [if_pos k3]
    refine ⟨⟨by omega, by omega⟩, .inl rfl, ?_⟩
    rw [p3]
    refine lc_wordsE hw (fun x hx Q0 E0 q0 => ?_) fun l hT p => hqo p l hT
    walk_at "dl"
    exact q0 _ _ (isBt_01 (xor_01 i01 t01)) rfl
  rw [if_neg k3]
  refine hM3 _ ?_
  -- 4
  refine wSeq_k fun M4 hM4 => ?_
  walk_at "dl"
  by_cases k4 : (k : Int) = 4
  · rw [if_pos k4]
    refine ⟨.inl (.inl ⟨by decide, by decide⟩), ?_⟩
    refine call_take (by have : Bd 8 (2 * (2 : Int) ^ w) := (by unfold Bd; omega); exact bd_mono this (by decide)) fun q g0 g1 => ?_
    obtain ⟨q, rfl⟩ : ∃ n : Nat, q = n := ⟨q.toNat, by omega⟩
    try walk_at "dl"
    refine ⟨⟨by omega, by omega⟩, .inl rfl, ?_⟩
    rw [p3]
    refine lc_wordsE hw (fun x hx Q0 E0 q0 => ?_) fun l hT p => hqo p l hT
    walk_at "dl"
    refine call_size (by omega) ?_
    walk_at "dl"
    refine ⟨by omega, ?_⟩
    rw [Int.toNat_natCast]
    exact q0 _ _ (isBt_01 (bit_01 _ _)) rfl
  rw [if_neg k4]
  refine hM4 _ ?_
  -- 5
  refine wSeq_k fun M5 hM5 => ?_
  walk_at "dl"
  by_cases k5 : (k : Int) = 5
  · rw [if_pos k5]
    refine ⟨⟨by omega, by omega⟩, .inl rfl, ?_⟩
    rw [Int.toNat_natCast]
    refine lcD_E (P := isNm) (fun d hd Q0 E0 q0 => ?_) (by rw [rangeD_len]; omega) fun ys hl hP p => ?_
    · obtain ⟨x, hx, rfl⟩ := rangeD_mem hd
      walk_at "dl"
      refine call_take bd_lit fun r r0 r1 => ?_
      walk_at "dl"
      exact q0 _ _ ⟨_, rfl⟩ rfl
    rw [rangeD_len] at hl
    obtain ⟨ns, rfl⟩ := isNm_row hP
    rw [List.length_map] at hl
    walk_at "dl"
    refine call_take bd_lit fun r r0 r1 => ?_
    walk_at "dl"
    refine ⟨⟨by omega, by omega⟩, .inl rfl, ?_⟩
    rw [p3]
    refine lc_words hw (fun ρ => ∃ s10, (s10 = .ow p (ns.map D.int) ∨ s10 = .sh (.lst (ns.map D.int))) ∧ ρ = [.sh .sto, .sh (.int w), .sh (.int k), .sh (.int (2 ^ w)), .sh (.int m), .sh (.int t), .un, .un, .un, .un, s10, .sh (.int (r - 3)), .un, .un, .un]) ⟨_, .inl rfl, rfl⟩ (fun x hx ρ hj Q0 E0 q0 => ?_) fun l ρ hj hT p => hqo p l hT
    obtain ⟨s10, hs, rfl⟩ := hj
    walk_at "dl"
    refine ⟨⟨by omega, by omega⟩, .inl rfl, ?_⟩
    rw [Int.toNat_natCast]
    refine lcD_J (P := isNm) (fun ρ => ∃ s10, (s10 = .ow p (ns.map D.int) ∨ s10 = .sh (.lst (ns.map D.int))) ∧ ρ = [.sh .sto, .sh (.int w), .sh (.int k), .sh (.int (2 ^ w)), .sh (.int m), .sh (.int t), .un, .un, .un, .un, s10, .sh (.int (r - 3)), .un, .un, .sh (.int x)]) _ _ _ ⟨s10, hs, rfl⟩ (fun d hd ρ hj Q1 E1 q1 => ?_) (by rw [rangeD_len]; simp only [List.length_nil]; omega) fun ys ρ hj hl2 hP2 => ?_
    · obtain ⟨s, hs, rfl⟩ := hj
      obtain ⟨y, hy, rfl⟩ := rangeD_mem hd
      obtain ⟨i, ei⟩ := atD_ints (ns := ns) (k := y) (by omega)
      have key : ∀ s', s' = .ow p (ns.map D.int) ∨ s' = .sh (.lst (ns.map D.int)) → (wMul (wIx (wVar 10) (wVar 7)) (wAnd2 (wShr (wVar 14) (wVar 7)) (wC (.int 1)))) [.sh .sto, .sh (.int w), .sh (.int k), .sh (.int (2 ^ w)), .sh (.int m), .sh (.int t), .un, .sh (.int y), .un, .un, s', .sh (.int (r - 3)), .un, .un, .sh (.int x)] Q1 E1 := fun s' hs' => by
        have fin : (CNn (x : Int) y) ∧ CMulA i (Builtin.bitAnd ((x : Int) / 2 ^ ((y : Nat) : Int).toNat) 1) ∧ Q1 (.sh (.int (i * Builtin.bitAnd ((x : Int) / 2 ^ ((y : Nat) : Int).toNat) 1))) [.sh .sto, .sh (.int w), .sh (.int k), .sh (.int (2 ^ w)), .sh (.int m), .sh (.int t), .un, .sh (.int y), .un, .un, .sh (.lst (ns.map D.int)), .sh (.int (r - 3)), .un, .un, .sh (.int x)] := by
          refine ⟨show (0 : Int) ≤ y by omega, ?_, q1 _ _ ⟨_, rfl⟩ ⟨_, .inr rfl, rfl⟩⟩
          rw [Int.toNat_natCast]
          have := bit_01 x y
          exact .inl (.inr ⟨by omega, by omega⟩)
        rcases hs' with rfl | rfl
        · walk_at "dl"
          refine ⟨_, ei, ?_⟩
          walk_at "dl"
          exact fin
        · walk_at "dl"
          refine ⟨_, ei, ?_⟩
          walk_at "dl"
          exact fin
      exact key s hs
    · obtain ⟨s, hs, rfl⟩ := hj
      obtain ⟨ms, rfl⟩ := isNm_row hP2
      intro p2
      walk_at "dl"
      refine ⟨⟨ms, rfl⟩, ?_⟩
      exact q0 _ _ (isBt_01 i01) ⟨s, hs, rfl⟩
  rw [if_neg k5]
  refine hM5 _ ?_
  -- 6
  refine wSeq_k fun M6 hM6 => ?_
  walk_at "dl"
  by_cases k6 : (k : Int) = 6
  · rw [if_pos k6]
    have bmx : Bd 8999 (max 1 (w : Int)) := by
      have : Bd 4 (max 1 (w : Int)) := by unfold Bd; omega
      exact bd_mono this (by decide)
    refine call_take bmx fun q g0 g1 => ?_
    obtain ⟨q, rfl⟩ : ∃ n : Nat, q = n := ⟨q.toNat, by omega⟩
    try walk_at "dl"
    refine call_take bmx fun u u0 u1 => ?_
    obtain ⟨u, rfl⟩ : ∃ n : Nat, u = n := ⟨u.toNat, by omega⟩
    try walk_at "dl"
    refine call_take bd_lit fun v v0 v1 => ?_
    obtain ⟨v, rfl⟩ : ∃ n : Nat, v = n := ⟨v.toNat, by omega⟩
    try walk_at "dl"
    refine ⟨⟨by omega, by omega⟩, .inl rfl, ?_⟩
    rw [p3]
    refine lc_wordsE hw (fun x hx Q0 E0 q0 => ?_) fun l hT p => hqo p l hT
    walk_at "dl"
    rw [Int.toNat_natCast, Int.toNat_natCast]
    have b1 := bit_01 x q
    have b2 := bit_01 x u
    refine ⟨by omega, by omega, .inl (.inl ⟨by decide, by decide⟩), by omega, ?_⟩
    exact q0 _ _ (isBt_01 (bit_01 _ _)) rfl
  rw [if_neg k6]
  refine hM6 _ ?_
  -- 7
  refine wSeq_k fun M7 hM7 => ?_
  walk_at "dl"
  by_cases k7 : (k : Int) = 7
  · rw [if_pos k7]
    refine ⟨⟨by omega, by omega⟩, .inl rfl, ?_⟩
    rw [p3]
    refine lc_wordsE hw (fun x hx Q0 E0 q0 => ?_) fun l hT p => hqo p l hT
    walk_at "dl"
    refine ⟨(show (0 : Int) ≤ 1 by decide), ?_⟩
    have e1 : (x : Int) / 2 ^ Int.toNat 1 = ((x / 2 : Nat) : Int) := by show (x : Int) / 2 ^ 1 = _; omega
    rw [e1, band_n]
    refine call_par (a := 21) (by decide) ?_
    walk_at "dl"
    refine call_par hm20 ?_
    walk_at "dl"
    exact q0 _ _ (isBt_01 (xor_01 (xor_01 (par_01 _) (par_01 _)) t01)) rfl
  rw [if_neg k7]
  refine hM7 _ ?_
  -- 8
  walk_at "dl"
  refine ⟨⟨by omega, by omega⟩, .inl rfl, ?_⟩
  rw [p3]
  refine lc_wordsE hw (fun x hx Q0 E0 q0 => ?_) fun l hT p => hqo p l hT
  walk_at "dl"
  exact q0 _ _ (isBt_01 i01) rfl
end C
set_option Elab.async false
set_option maxRecDepth 100000
set_option maxHeartbeats 1000000
set_option linter.unusedVariables false
namespace C
open PySem PySem.Spec PyProof.Rows L2 NdefX DL
local macro_rules | `(tactic| walk_at "dl") => `(tactic| simp only [wSeq, wLc, wTrue, wRaise0, wRaiseL, wSplit, wJoin, wFs, wSlS1, wSlS2, wAug, wItemsC, wEnum, pStr, fStr, pIntS, fIntS, roInS, orF, NoExc, dgTwo, wItemsT, wSlS0, wIsdig, roMulS, roInL, wIndexS, wSum, pSum, fSum, lk_wide, lk_held, okT_T, wFld, wGet, wMeth, wOwn2, wOwnI, wOwn1, wOwnLen, wOwnStr, wRevT, wZip, wItemsLT, wTupD, wLstD, wMv, isOwn, insOf, iStm, iFld, iEnd, pSumT, fSumT, wNever, tb, eq_self, exists_eq_left', Option.some.injEq,  wIf, wNext, wBreak, wCont, wRet, wRetN, wDrop, wSet, wTest, wAndB, wOrB, wNotB, wIsi, wVar, wC, wOp, wRaise, wCall, wCons, wNil, wFun, wPar, wTup, wNeg, wUn, wIfE, wAndV, wOrV, wNotV, wUnp2, wLst, wIxO, wLenO, wSetIx, wAppend, wDic0, wFor, wItemsL, wItemsS, wRng1, wRng2, wListRev, dgName, roAdd, roI, roI0, roB, roIx, roIsN, roF, roL, datas, List.map_cons, List.map_nil, entry, List.length_cons, List.length_nil, List.cons_append, List.nil_append, List.replicate, List.replicate_succ, List.replicate_zero, Nat.reduceAdd, Nat.reduceSub, Nat.zero_add,
  List.getElem?_cons_zero, List.getElem?_cons_succ, List.set_cons_zero, List.set_cons_succ, dat_sh, dat_ow, dat_dp, DL.isInt, DL.isBool, DL.isStr, DL.isLst, DL.isTup, PinD, Bool.not_true, Bool.not_false, Bool.false_eq_true, if_true, if_false, true_and, and_true, OkAD, bodyEnds, pInt1, pInt2, fAbs, fMin, fMax, pIntOf, fIntOf, pLen, fLen, pSeq, fSeq, reduceIte, decide_eq_true_eq, ite_true, ite_false, Bool.and_eq_true, Bool.not_eq_true', roEq_int, Bool.true_xor, Bool.false_xor, Bool.true_eq_false])
theorem call_bof {w k : Nat} {Q : Sl → Prop} {E : Er → Prop} (hw : w ≤ 6) (hk : k ≤ 9) (h : ∀ l, TB w l → Q (.sh (.lst (nD l)))) : W_law_bits_of [.sto, .int w, .int k] Q E :=
  ⟨⟨w, k, rfl, hw, hk⟩, fun z ⟨w', r, l, e, ez, hT⟩ => by cases e; subst ez; exact h l hT, fun _ z => z.elim⟩
theorem call_bits {w : Nat} {Q : Sl → Prop} {E : Er → Prop} (hw : w ≤ 6) (h : ∀ l, TB w l → Q (.sh (.lst (nD l)))) : W_law_bits [.sto, .int w] Q E :=
  ⟨⟨w, rfl, hw⟩, fun z ⟨w', r, l, e, ez, hT⟩ => by cases e; subst ez; exact h l hT, fun _ z => z.elim⟩
theorem sat_law_bits_up : ∀ ds Q E', W_law_bits_up ds Q E' → p_law_bits_up (bodyEnds Q) (entry 7 ds) (fun e _ => E' e) := by
  rintro ds Q E' ⟨⟨w, rfl, hw⟩, h, _⟩
  obtain ⟨p1, p2, p3, p4, p5⟩ := pw_facts hw
  have n64 : 2 ^ w ≤ 64 := by omega
  have e1 : (1 : Int) * 2 ^ ((w : Nat) : Int).toNat = 2 ^ w := by rw [Int.toNat_natCast, Int.one_mul]
  unfold p_law_bits_up
  refine wSeq_k fun N1 hN1 => ?_
  walk_at "dl"
  refine call_take bd_lit fun r r0 r1 => ?_
  try walk_at "dl"
  refine ⟨⟨by omega, by omega⟩, .inl rfl, ?_⟩
  obtain ⟨r, rfl⟩ : ∃ n : Nat, r = n := ⟨r.toNat, by omega⟩
  rw [Int.toNat_natCast]
  refine lcD_E (P := isNm) (fun d hd Q0 E0 q0 => ?_) (by rw [rangeD_len]; omega) fun ys hl hP p => hN1 _ ?_
  · obtain ⟨x, hx, rfl⟩ := rangeD_mem hd
    walk_at "dl"
    rw [e1]
    refine ⟨⟨by omega, by omega, by decide⟩, call_take p4 fun a a0 a1 => ?_⟩
    exact q0 _ _ ⟨_, rfl⟩ rfl
  refine wSeq_k fun N2 hN2 => ?_
  walk_at "dl"
  rw [e1, p3]
  refine ⟨⟨by omega, by omega, by decide⟩, ⟨by omega, by omega⟩, .inl rfl, ?_⟩
  refine lc_wordsE hw (fun x hx Q0 E0 q0 => ?_) fun l hT p2 => hN2 _ ?_
  · walk_at "dl"
    exact q0 _ _ (isBt_01 (.inl rfl)) rfl
  refine wSeq_k fun N3 hN3 => ?_
  walk_at "dl"
  have hP2 : ∀ y ∈ ys, isNm y := hP
  refine forD_ind (fun ds ρ => (∀ y ∈ ds, isNm y) ∧ ∃ p l x, TB w l ∧ ρ = [.sh .sto, .sh (.int w), .sh (.lst ys), .ow p (nD l), x, .un, .un]) ?_ ?_ _ _ ⟨hP2, p2, l, _, hT, rfl⟩
  · rintro ρ ⟨_, p, l, x, hT, rfl⟩
    refine hN3 _ ?_
    walk_at "dl"
    exact bodyR (h _ ⟨w, [], l, rfl, rfl, hT⟩)
  · rintro d ds ρ ⟨hP, p, l, x, hT, rfl⟩ K hK
    obtain ⟨m, rfl⟩ := hP d List.mem_cons_self
    walk_at "dl"
    have hl2 : ((nD l).length : Int).toNat = 2 ^ w := by rw [nD_len, hT.len, Int.toNat_natCast]
    rw [hl2]
    refine ⟨⟨by omega, by rw [nD_len, hT.len]; omega⟩, .inl rfl, ?_⟩
    refine lc_wordsE hw (fun x hx Q0 E0 q0 => ?_) fun l2 hT2 p3 => hK _ ⟨fun y hy => hP y (List.mem_cons_of_mem _ hy), p3, l2, .sh (.int m), hT2, rfl⟩
    walk_at "dl"
    refine ⟨_, atD_nD (by omega) (by rw [hT.len]; omega), ?_⟩
    walk_at "dl"
    have hb : l.getD ((x : Nat) : Int).toNat 0 ≤ 1 := by
      rw [Int.toNat_natCast]
      have hl : x < l.length := by rw [hT.len]; exact hx
      rw [List.getD_eq_getElem?_getD, List.getElem?_eq_getElem hl]
      exact hT.bit _ (List.getElem_mem hl)
    refine q0 _ _ (isBt_01 ?_) rfl
    have := i01 (p := Builtin.bitAnd (x : Int) m = m)
    omega
theorem sat_law_bits : ∀ ds Q E', W_law_bits ds Q E' → p_law_bits (bodyEnds Q) (entry 5 ds) (fun e _ => E' e) := by
  rintro ds Q E' ⟨⟨w, rfl, hw⟩, h, _⟩
  obtain ⟨p1, p2, p3, p4, p5⟩ := pw_facts hw
  have n64 : 2 ^ w ≤ 64 := by omega
  have e1 : (1 : Int) * 2 ^ ((w : Nat) : Int).toNat = 2 ^ w := by rw [Int.toNat_natCast, Int.one_mul]
  unfold p_law_bits
  refine wSeq_k fun N1 hN1 => ?_
  walk_at "dl"
  refine call_take bd_lit fun r r0 r1 => hN1 _ ?_
  refine wSeq_k fun N2 hN2 => ?_
  walk_at "dl"
  by_cases h10 : r < 10
  · rw [if_pos h10]
    obtain ⟨k, rfl⟩ : ∃ n : Nat, r = n := ⟨r.toNat, by omega⟩
    exact call_bof hw (by omega) fun l hT => bodyR (h _ ⟨w, [], l, rfl, rfl, hT⟩)
  rw [if_neg h10]
  refine hN2 _ ?_
  refine wSeq_k fun N3 hN3 => ?_
  walk_at "dl"
  rw [e1, p3, Int.one_mul]
  have big : ((2 : Int) ^ 2 ^ w).natAbs ≤ 2 ^ 64 := by
    rw [Int.natAbs_pow]
    exact Nat.pow_le_pow_right (by decide) n64
  refine ⟨⟨by omega, by omega, by decide⟩, ⟨by omega, by omega, by decide⟩, call_take (by have : Bd 65 ((2 : Int) ^ 2 ^ w) := Nat.lt_of_le_of_lt big (by decide); exact bd_mono this (by decide)) fun t t0 t1 => hN3 _ ?_⟩
  obtain ⟨t, rfl⟩ : ∃ n : Nat, t = n := ⟨t.toNat, by omega⟩
  walk_at "dl"
  rw [e1, p3]
  refine ⟨⟨by omega, by omega, by decide⟩, ⟨by omega, by omega⟩, .inl rfl, ?_⟩
  refine lc_wordsE hw (fun x hx Q0 E0 q0 => ?_) fun l hT p => ⟨_, .sh _ (fun z => by cases z), h _ ⟨w, [], l, rfl, rfl, hT⟩⟩
  walk_at "dl"
  rw [Int.toNat_natCast]
  exact ⟨by omega, q0 _ _ (isBt_01 (bit_01 _ _)) rfl⟩
end C
set_option Elab.async false
set_option maxRecDepth 100000
set_option maxHeartbeats 1000000
set_option linter.unusedVariables false
namespace C
open PySem PySem.Spec PyProof.Rows L2 NdefX DL
local macro_rules | `(tactic| walk_at "dl") => `(tactic| simp only [wSeq, wLc, wTrue, wRaise0, wRaiseL, wSplit, wJoin, wFs, wSlS1, wSlS2, wAug, wItemsC, wEnum, pStr, fStr, pIntS, fIntS, roInS, orF, NoExc, dgTwo, wItemsT, wSlS0, wIsdig, roMulS, roInL, wIndexS, wSum, pSum, fSum, lk_wide, lk_held, okT_T, wFld, wGet, wMeth, wOwn2, wOwnI, wOwn1, wOwnLen, wOwnStr, wRevT, wZip, wItemsLT, wTupD, wLstD, wMv, isOwn, insOf, iStm, iFld, iEnd, pSumT, fSumT, wNever, tb, eq_self, exists_eq_left', Option.some.injEq, lackN,  wIf, wNext, wBreak, wCont, wRet, wRetN, wDrop, wSet, wTest, wAndB, wOrB, wNotB, wIsi, wVar, wC, wOp, wRaise, wCall, wCons, wNil, wFun, wPar, wTup, wNeg, wUn, wIfE, wAndV, wOrV, wNotV, wUnp2, wLst, wIxO, wLenO, wSetIx, wAppend, wDic0, wFor, wItemsL, wItemsS, wRng1, wRng2, wListRev, dgName, roAdd, roI, roI0, roB, roIx, roIsN, roF, roL, datas, List.map_cons, List.map_nil, entry, List.length_cons, List.length_nil, List.cons_append, List.nil_append, List.replicate, List.replicate_succ, List.replicate_zero, Nat.reduceAdd, Nat.reduceSub, Nat.zero_add,
  List.getElem?_cons_zero, List.getElem?_cons_succ, List.set_cons_zero, List.set_cons_succ, dat_sh, dat_ow, dat_dp, DL.isInt, DL.isBool, DL.isStr, DL.isLst, DL.isTup, PinD, Bool.not_true, Bool.not_false, Bool.false_eq_true, if_true, if_false, true_and, and_true, OkAD, bodyEnds, pInt1, pInt2, fAbs, fMin, fMax, pIntOf, fIntOf, pLen, fLen, pSeq, fSeq, reduceIte, decide_eq_true_eq, ite_true, ite_false, Bool.and_eq_true, Bool.not_eq_true', roEq_int, Bool.true_xor, Bool.false_xor, Bool.true_eq_false])
theorem okI_T : okI "Table" = true := rfl
theorem okI_A : okI "Asked" = true := rfl
theorem isT_tb {w : Nat} {l : List Nat} : isT (tb w l) = some true := rfl
theorem pl_nD (n : Nat) (l : List Nat) : (nD l).all (pl (n + 1)) = true := by
  unfold nD; rw [List.all_map, List.all_eq_true]; intro x _; rfl
theorem chkT_get {d : D} {z : Str} {Q : Sl → Prop} {E : Er → Prop} (h : WF f_chkT [d, .str z] Q E) : z.length ≤ 1000 ∧ (isT d).isSome = true ∧ (isT d = some true → Q (.sh .non)) ∧ (isT d = some false → E (Er1 "WrongKind" z)) := by
  unfold WF f_chkT at h
  simp only [] at h
  by_cases hz : z.length ≤ 1000
  · rw [if_pos hz] at h
    cases hd : isT d with
    | none => rw [hd] at h; exact h.elim
    | some b =>
      rw [hd] at h
      cases b with
      | true => exact ⟨hz, rfl, fun _ => h, fun e => by cases e⟩
      | false => exact ⟨hz, rfl, (fun e => by cases e), fun _ => h⟩
  · rw [if_neg hz] at h; exact h.elim
theorem call_chkT {d : D} {z : Str} {Q : Sl → Prop} {E : Er → Prop} (hz : z.length ≤ 1000) (h : (isT d).isSome = true) (h1 : isT d = some true → Q (.sh .non)) (h2 : isT d = some false → E (Er1 "WrongKind" z)) : WF f_chkT [d, .str z] Q E := by
  unfold WF f_chkT
  simp only []
  rw [if_pos hz]
  cases hd : isT d with
  | none => rw [hd] at h; cases h
  | some b =>
    cases b with
    | true => exact h1 hd
    | false => exact h2 hd
theorem isT_pin {d : D} (h : (isT d).isSome = true) : PinD [] d := by
  cases d <;> first | trivial | cases h
theorem isT_walk {d : D} {P : Bool → Prop} (h : (isT d).isSome = true) (k : ∀ b, isT d = some b → P b) : (match isOwnX okI "Table" d with | some b => PinD [] d ∧ P b | none => False) := by
  cases hd : isT d with
  | none => rw [hd] at h; cases h
  | some b =>
    have e : isOwnX okI "Table" d = some b := hd
    rw [e]
    exact ⟨isT_pin h, k b hd⟩
theorem chkT_str {d y : D} {Q : Sl → Prop} {E : Er → Prop} (h : WF f_chkT [d, y] Q E) : ∃ z, y = .str z := by
  cases y <;> first | exact ⟨_, rfl⟩ | exact (show False from h).elim
theorem walk_chkT {d : D} {Q : Sl → Prop} {E' : Er → Prop} (h : WF f_chkT [d, .str z] Q E') : (match isOwnX okI "Table" d with | some b => PinD [] d ∧ (if b = false then z.length ≤ 100000 ∧ E' (Er1 "WrongKind" z) else ∃ y, Cv (Sl.sh D.non) y ∧ Q y) | none => False) := by
  obtain ⟨hz, hs, h1, h2⟩ := chkT_get h
  refine isT_walk hs fun b hb => ?_
  cases b with
  | false => rw [if_pos rfl]; exact ⟨by omega, h2 hb⟩
  | true => rw [if_neg (by decide)]; exact bodyR (h1 hb)
theorem sat_check_table_pairs : ∀ ds Q E', W_check_table_pairs ds Q E' → p_check_table_pairs (bodyEnds Q) (entry 2 ds) (fun e _ => E' e) := by
  intro ds Q E' h
  have hl := len_check_table_pairs ds Q E' h
  match ds, hl, h with
  | [d, y], _, h =>
    obtain ⟨z, rfl⟩ := chkT_str h
    unfold p_check_table_pairs
    walk_at "dl"
    exact walk_chkT h
theorem sat_check_table_asking : ∀ ds Q E', W_check_table_asking ds Q E' → p_check_table_asking (bodyEnds Q) (entry 1 ds) (fun e _ => E' e) := by
  intro ds Q E' h
  have hl := len_check_table_asking ds Q E' h
  match ds, hl, h with
  | [d], _, h =>
    unfold p_check_table_asking
    walk_at "dl"
    exact walk_chkT (z := "table") h
theorem tbl_len : ("table" : Str).length ≤ 1000 := by decide +kernel
theorem call_chkA {d : D} {Q : Sl → Prop} {E : Er → Prop} (h : (isT d).isSome = true) (h1 : isT d = some true → Q (.sh .non)) (h2 : isT d = some false → E (Er1 "WrongKind" "table")) : W_check_table_asking [d] Q E := by
  have k := call_chkT (Q := Q) (E := E) tbl_len h h1 h2
  exact k
theorem sat_Asked_init (K : PySem.W.Frag) : ∀ a ds Q E', W_Asked_init ds Q E' → p_Asked_init K a [] [] (entry 3 (selfD K "Asked" a :: ds)) (fun fs ds => Q (.sh (.ins "Asked" fs ds))) E' := by
  rintro a ds Q E' ⟨w, l, rfl, hT, hq⟩
  have st : ∀ y1 y2 y3 : D, ∀ z ∈ [Sl.sh y1, .sh y2, .sh y3], StillS z := fun y1 y2 y3 z hz => by
    simp only [List.mem_cons, List.not_mem_nil, or_false] at hz
    rcases hz with rfl | rfl | rfl <;> exact .inr ⟨_, rfl⟩
  unfold p_Asked_init
  walk_at "dl"
  refine call_chkA (d := tb w l) rfl (fun _ => ?_) (fun e => by have := (isT_tb (w := w) (l := l)).symm.trans e; cases this)
  exact ⟨st _ _ _, st _ _ _, st _ _ _, by simp, by decide, st _ _ _, by decide +kernel, by decide, fun p => ⟨st _ _ _, by decide +kernel, by decide, hq⟩⟩
theorem sat_law_is_table : ∀ ds Q E', W_law_is_table ds Q E' → p_law_is_table (bodyEnds Q) (entry 3 ds) (fun e _ => E' e) := by
  rintro ds Q E' ⟨w, l, rfl, hT, hq⟩
  unfold p_law_is_table
  refine wSeq_k ?_
  intro N1 hN1
  walk_at "dl"
  have e : isOwnX okI "Table" (.ins "Table" ["wide", "held"] [.int w, .tup (nD l)]) = some true := rfl
  simp only [e, Bool.true_eq_false, if_false]
  refine hN1 _ ?_
  refine wSeq_i ?_
  walk_at "dl"
  refine ⟨w, l, rfl, hT, ?_⟩
  try walk_at "dl"
  refine call_same rfl ?_
  try walk_at "dl"
  refine ⟨w, l, rfl, hT, ?_⟩
  try walk_at "dl"
  refine roTup_mono (fun z ez => ?_) (show (roTup [.lst (nD l)] fun z => z = .sh (.tup (nD l))) from rfl)
  subst ez
  refine call_same ?_ (bodyR hq)
  have h64 := hT.le
  have d1 : decide ((nD l).length ≤ 100000) = true := decide_eq_true (by rw [nD_len]; omega)
  simp only [pl, pl_nD, d1, Bool.and_true]
theorem call_istab {w : Nat} {l : List Nat} {Q : Sl → Prop} {E : Er → Prop} (h : TB w l) (q : Q (.sh (.bl true))) : W_law_is_table [tb w l, .int w, .lst (nD l)] Q E := ⟨w, l, rfl, h, q⟩
theorem call_mkA {w : Nat} {l : List Nat} {Q : Sl → Prop} {E : Er → Prop} (h : TB w l) (q : Q (.sh (askD w l))) : lackN W_Asked_init [tb w l] Q E := ⟨w, l, rfl, h, q⟩
theorem fltJ_cases {d lo hi : D} {z : Str} (h : fltJ d lo hi = some z) : (∃ c fs ds, d = .ins c fs ds ∧ okI c = true ∧ z = "WrongKind") ∨ ((∀ c fs ds, d ≠ .ins c fs ds) ∧ fltN d lo hi = some z) := by
  cases d with
  | ins c fs ds =>
    have h2 : (if okI c = true then some ("WrongKind" : Str) else none) = some z := h
    by_cases hc : okI c = true
    · rw [if_pos hc] at h2; cases h2; exact .inl ⟨c, fs, ds, rfl, hc, rfl⟩
    · rw [if_neg hc] at h2; cases h2
  | _ => exact .inr ⟨(fun _ _ _ e => by cases e), h⟩
theorem sat_law_number_fault_iv : ∀ ds Q E', W_law_number_fault_iv ds Q E' → p_law_number_fault_iv (bodyEnds Q) (entry 3 ds) (fun e _ => E' e) := by
  intro ds Q E' h
  obtain ⟨d, e, hq⟩ := WFok h (fun e z => by
    split at z
    · rw [Option.map_eq_some_iff] at z; obtain ⟨_, _, z⟩ := z; cases z
    · cases z)
  split at e
  · rename_i d lo hi
    rw [Option.map_eq_some_iff] at e
    obtain ⟨z, e1, e2⟩ := e
    cases e2
    unfold p_law_number_fault_iv
    rcases fltJ_cases e1 with ⟨c, fs, ds, rfl, hc, rfl⟩ | ⟨_, e1⟩
    · walk_at "dl"
      simp only [insF, hc]
      walk_at "dl"
      exact bodyR hq
    cases d with
    | int i =>
      unfold fltN at e1
      simp only [] at e1
      split at e1 <;> cases e1 <;> walk_at "dl" <;> simp only [insF] <;> walk_at "dl"
      · exact bodyR hq
      · split <;> split at hq <;> first | exact bodyR hq | omega
      · split <;> split at hq <;> first | exact bodyR hq | omega
      · rename_i a b
        by_cases h1 : i < a
        · rw [if_pos (.inl h1)] at hq; rw [if_pos h1]; exact bodyR hq
        · rw [if_neg h1]
          by_cases h2 : b < i
          · rw [if_pos (.inr h2)] at hq; rw [if_pos h2]; exact bodyR hq
          · rw [if_neg (by omega)] at hq; rw [if_neg h2]; exact bodyR hq
    | non => simp only [fltN, isI, Option.map_some, Option.some.injEq] at e1; subst e1; walk_at "dl"; simp only [insF]; walk_at "dl"; exact bodyR hq
    | bl b => simp only [fltN, isI, Option.map_some, Option.some.injEq] at e1; subst e1; walk_at "dl"; simp only [insF]; walk_at "dl"; exact bodyR hq
    | tup b => simp only [fltN, isI, Option.map_some, Option.some.injEq] at e1; subst e1; walk_at "dl"; simp only [insF]; walk_at "dl"; exact bodyR hq
    | str b => simp only [fltN, isI, Option.map_some, Option.some.injEq] at e1; subst e1; walk_at "dl"; simp only [insF]; walk_at "dl"; exact bodyR hq
    | lst b => simp only [fltN, isI, Option.map_some, Option.some.injEq] at e1; subst e1; walk_at "dl"; simp only [insF]; walk_at "dl"; exact bodyR hq
    | dic a b => simp only [fltN, isI, Option.map_some, Option.some.injEq] at e1; subst e1; walk_at "dl"; simp only [insF]; walk_at "dl"; exact bodyR hq
    | _ => simp only [fltN, isI, Option.map_none, reduceCtorEq] at e1
  · cases e
theorem call_nfJ {d lo hi : D} {z : Str} {Q : Sl → Prop} {E : Er → Prop} (hd : fltJ d lo hi = some z) (h : Q (.sh (.str z))) : W_law_number_fault_iv [d, lo, hi] Q E := WF_ok (d := .str z) (by simp only []; rw [hd]; rfl) h
theorem sat_law_pick : ∀ ds Q E', W_law_pick ds Q E' → p_law_pick (bodyEnds Q) (entry 2 ds) (fun e _ => E' e) := by
  rintro ds Q E' ⟨⟨l, rfl, hn, hl⟩, h, _⟩
  unfold p_law_pick
  walk_at "dl"
  have b : Bd 8999 (l.length : Int) := by
    have : Bd 10 (l.length : Int) := by unfold Bd; omega
    exact bd_mono this (by decide)
  have l0 : 0 < l.length := by cases l with | nil => exact absurd rfl hn | cons => simp
  refine call_take b fun r r0 r1 => ?_
  try walk_at "dl"
  obtain ⟨x, hx, e⟩ := atD_in (l := l) r0 (by omega)
  exact ⟨x, e, bodyR (h _ ⟨l, x, rfl, hx, rfl⟩)⟩
theorem call_pick {l : List D} {Q : Sl → Prop} {E : Er → Prop} (hn : l ≠ []) (hl : l.length ≤ 1000) (h : ∀ d ∈ l, Q (.sh d)) : W_law_pick [.sto, .lst l] Q E := ⟨⟨l, rfl, hn, hl⟩, fun z ⟨l', d, e, hd, ez⟩ => by cases e; rw [ez]; exact h d hd, fun _ z => z.elim⟩
end C
set_option Elab.async false
set_option maxRecDepth 100000
set_option maxHeartbeats 1000000
set_option linter.unusedVariables false
namespace C
open PySem PySem.Spec PyProof.Rows L2 NdefX DL
local macro_rules | `(tactic| walk_at "dl") => `(tactic| simp only [wSeq, wLc, wTrue, wRaise0, wRaiseL, wSplit, wJoin, wFs, wSlS1, wSlS2, wAug, wItemsC, wEnum, pStr, fStr, pIntS, fIntS, roInS, orF, NoExc, dgTwo, wItemsT, wSlS0, wIsdig, roMulS, roInL, wIndexS, wSum, pSum, fSum, lk_wide, lk_held, okT_T, wFld, wGet, wMeth, wOwn2, wOwnI, wOwn1, wOwnLen, wOwnStr, wRevT, wZip, wItemsLT, wTupD, wLstD, wMv, isOwn, insOf, iStm, iFld, iEnd, pSumT, fSumT, wNever, tb, eq_self, exists_eq_left', Option.some.injEq, lackN,  wIf, wNext, wBreak, wCont, wRet, wRetN, wDrop, wSet, wTest, wAndB, wOrB, wNotB, wIsi, wVar, wC, wOp, wRaise, wCall, wCons, wNil, wFun, wPar, wTup, wNeg, wUn, wIfE, wAndV, wOrV, wNotV, wUnp2, wLst, wIxO, wLenO, wSetIx, wAppend, wDic0, wFor, wItemsL, wItemsS, wRng1, wRng2, wListRev, dgName, roAdd, roI, roI0, roB, roIx, roIsN, roF, roL, datas, List.map_cons, List.map_nil, entry, List.length_cons, List.length_nil, List.cons_append, List.nil_append, List.replicate, List.replicate_succ, List.replicate_zero, Nat.reduceAdd, Nat.reduceSub, Nat.zero_add,
  List.getElem?_cons_zero, List.getElem?_cons_succ, List.set_cons_zero, List.set_cons_succ, dat_sh, dat_ow, dat_dp, DL.isInt, DL.isBool, DL.isStr, DL.isLst, DL.isTup, PinD, Bool.not_true, Bool.not_false, Bool.false_eq_true, if_true, if_false, true_and, and_true, OkAD, bodyEnds, pInt1, pInt2, fAbs, fMin, fMax, pIntOf, fIntOf, pLen, fLen, pSeq, fSeq, reduceIte, decide_eq_true_eq, ite_true, ite_false, Bool.and_eq_true, Bool.not_eq_true', roEq_int, Bool.true_xor, Bool.false_xor, Bool.true_eq_false])
theorem tb01 : TB 1 [0, 1] := ⟨by decide, rfl, by decide⟩
theorem tb1 : TB 0 [1] := ⟨by decide, rfl, by decide⟩
def menuT : List D := [.non, .int 0, .bl true, .str "1:01", .lst [.int 0, .int 1], .tup [.int 0, .int 1], .lst [], .str "", .int 2, .dic [] [], askD 1 [0, 1]]
theorem menuT_ok : ∀ d ∈ menuT, isT d = some false := fun d hd => by
  unfold menuT at hd
  simp only [List.mem_cons, List.not_mem_nil, or_false] at hd
  rcases hd with rfl | rfl | rfl | rfl | rfl | rfl | rfl | rfl | rfl | rfl | rfl <;> rfl
theorem sat_law_odd_table : ∀ ds Q E', W_law_odd_table ds Q E' → p_law_odd_table (bodyEnds Q) (entry 2 ds) (fun e _ => E' e) := by
  rintro ds Q E' ⟨rfl, h, _⟩
  unfold p_law_odd_table
  refine wSeq_k ?_
  intro N1 hN1
  walk_at "dl"
  intro p1 p2 p3
  refine call_mk (l := [0, 1]) tb01 ?_
  refine ⟨1, [0, 1], rfl, tb01, fun p4 => hN1 _ ?_⟩
  refine wSeq_i ?_
  walk_at "dl"
  refine call_take bd_lit fun r r0 r1 => ?_
  try walk_at "dl"
  obtain ⟨x, hx, e⟩ := atD_in (l := menuT) r0 (show r < 11 by omega)
  exact ⟨x, e, bodyR (h _ ⟨x, rfl, menuT_ok x hx⟩)⟩
theorem call_oddT {Q : Sl → Prop} {E : Er → Prop} (h : ∀ d, isT d = some false → Q (.sh d)) : W_law_odd_table [.sto] Q E := ⟨rfl, fun z ⟨d, e, hd⟩ => by rw [e]; exact h d hd, fun _ z => z.elim⟩
theorem sat_law_odd_number_iv : ∀ ds Q E', W_law_odd_number_iv ds Q E' → p_law_odd_number_iv (bodyEnds Q) (entry 6 ds) (fun e _ => E' e) := by
  rintro ds Q E' ⟨⟨lo, hi, rfl, ha, hb⟩, h, _⟩
  have hq : ∀ d, (isJ d).isSome = true → (∀ i, d = .int i → Bd 210 i) → Q (.sh d) := fun d h1 h2 => h _ ⟨d, rfl, h1, h2⟩
  have b40 : Bd 200 (10 ^ Int.toNat 40) := by
    show (10 ^ Int.toNat 40 : Int).natAbs < 2 ^ 200
    decide +kernel
  have odd2 : ∀ (r a b : Int), 9 ≤ r → r < 15 → Bd 200 a → Bd 200 b → ∃ x, atD [D.int (a - 1), .int (b + 1), .int (a - 10 ^ Int.toNat 40), .int (b + 10 ^ Int.toNat 40), .int a, .int b] (r - 9) = some x ∧ ∃ y, Cv (Sl.sh x) y ∧ Q y := fun r a b h0 h1 ha hb => by
    obtain ⟨x, hx, e⟩ := atD_in (l := [D.int (a - 1), .int (b + 1), .int (a - 10 ^ Int.toNat 40), .int (b + 10 ^ Int.toNat 40), .int a, .int b]) (i := r - 9) (by omega) (by simp only [List.length_cons, List.length_nil]; omega)
    simp only [List.mem_cons, List.not_mem_nil, or_false] at hx
    have b1 : Bd 200 1 := by unfold Bd; omega
    have oi : ∀ i, Bd 210 i → ∀ j, D.int i = .int j → Bd 210 j := fun i h j e => by cases e; exact h
    refine ⟨x, e, bodyR ?_⟩
    rcases hx with rfl | rfl | rfl | rfl | rfl | rfl
    · exact hq _ rfl (oi _ (bd_mono (bd_add ha (bd_neg b1)) (by decide)))
    · exact hq _ rfl (oi _ (bd_mono (bd_add hb b1) (by decide)))
    · exact hq _ rfl (oi _ (bd_mono (bd_add ha (bd_neg b40)) (by decide)))
    · exact hq _ rfl (oi _ (bd_mono (bd_add hb b40) (by decide)))
    · exact hq _ rfl (oi _ (bd_mono ha (by decide)))
    · exact hq _ rfl (oi _ (bd_mono hb (by decide)))
  have odd1 : ∀ r : Int, 0 ≤ r → r < 9 → ∃ x, atD [D.non, .bl true, .bl false, .str "", .str "1", .lst [.int 0], .tup [.int 1], .dic [] [], tb 0 [1]] r = some x ∧ ∃ y, Cv (Sl.sh x) y ∧ Q y := fun r h0 h1 => by
    obtain ⟨x, hx, e⟩ := atD_in (l := [D.non, .bl true, .bl false, .str "", .str "1", .lst [.int 0], .tup [.int 1], .dic [] [], tb 0 [1]]) h0 (by simpa using h1)
    simp only [List.mem_cons, List.not_mem_nil, or_false] at hx
    refine ⟨x, e, bodyR ?_⟩
    rcases hx with rfl | rfl | rfl | rfl | rfl | rfl | rfl | rfl | rfl <;> exact hq _ rfl (fun i e => by cases e)
  unfold p_law_odd_number_iv
  refine wSeq_k ?_
  intro N1 hN1
  walk_at "dl"
  refine hN1 _ ?_
  refine wSeq_k ?_
  intro N2 hN2
  walk_at "dl"
  refine hN2 _ ?_
  refine wSeq_k ?_
  intro N3 hN3
  walk_at "dl"
  refine hN3 _ ?_
  refine wSeq_k ?_
  intro N4 hN4
  walk_at "dl"
  refine hN4 _ ?_
  refine wSeq_k ?_
  intro N5 hN5
  walk_at "dl"
  refine call_take (bd_le0 (n := 5) (by decide) (by decide)) fun r h0 h1 => hN5 _ ?_
  refine wSeq_k ?_
  intro N6 hN6
  unfold wIf wTest
  simp only [wLt, wVar, wC, wOp, roB, List.getElem?_cons_zero, List.getElem?_cons_succ, dat_sh]
  simp only [decide_eq_true_eq]
  by_cases hr : r < 9
  · rw [if_pos hr]
    refine wSeq_i ?_
    unfold wRet
    unfold wIx
    unfold wOp
    unfold wLst
    simp only [wCons, wC, wNil, wTup, wDic0, wCall, wVar, datas, List.map_cons, List.map_nil, dat_sh, dat_ow, List.set_cons_succ, List.set_cons_zero, List.getElem?_cons_succ, List.getElem?_cons_zero, roIx, bodyEnds]
    intro p1 p2
    refine call_mk (l := [1]) tb1 ?_
    intro p3
    exact odd1 r h0 hr
  · rw [if_neg hr]
    refine hN6 _ ?_
    refine wSeq_i ?_
    walk_at "dl"
    exact ⟨cpow, cpow, fun _ => odd2 r _ _ (by omega) (by omega) (by assumption) (by assumption)⟩
theorem call_oddJ {w : Nat} (hw : w ≤ 6) {Q : Sl → Prop} {E : Er → Prop} (h : ∀ d, (isJ d).isSome = true → Q (.sh d)) : W_law_odd_number_iv [.sto, .int 0, .int (2 ^ w - 1)] Q E := by
  obtain ⟨p1, p2, p3, p4, p5⟩ := pw_facts hw
  have : Bd 7 ((2 : Int) ^ w - 1) := by unfold Bd; omega
  exact ⟨⟨0, 2 ^ w - 1, rfl, bd_lit, bd_mono this (by decide)⟩, fun z ⟨d, e, hd⟩ => by rw [e]; exact h d hd.1, fun _ z => z.elim⟩
end C
set_option Elab.async false
set_option maxRecDepth 100000
set_option maxHeartbeats 1000000
set_option linter.unusedVariables false
namespace C
open PySem PySem.Spec PyProof.Rows L2 NdefX DL
local macro_rules | `(tactic| walk_at "dl") => `(tactic| simp only [wSeq, wLc, wTrue, wRaise0, wRaiseL, wSplit, wJoin, wFs, wSlS1, wSlS2, wAug, wItemsC, wEnum, pStr, fStr, pIntS, fIntS, roInS, orF, NoExc, dgTwo, wItemsT, wSlS0, wIsdig, roMulS, roInL, wIndexS, wSum, pSum, fSum, lk_wide, lk_held, okT_T, wFld, wGet, wMeth, wOwn2, wOwnI, wOwn1, wOwnLen, wOwnStr, wRevT, wZip, wItemsLT, wTupD, wLstD, wMv, isOwn, insOf, iStm, iFld, iEnd, pSumT, fSumT, wNever, tb, eq_self, exists_eq_left', Option.some.injEq, lackN,  wIf, wNext, wBreak, wCont, wRet, wRetN, wDrop, wSet, wTest, wAndB, wOrB, wNotB, wIsi, wVar, wC, wOp, wRaise, wCall, wCons, wNil, wFun, wPar, wTup, wNeg, wUn, wIfE, wAndV, wOrV, wNotV, wUnp2, wLst, wIxO, wLenO, wSetIx, wAppend, wDic0, wFor, wItemsL, wItemsS, wRng1, wRng2, wListRev, dgName, roAdd, roI, roI0, roB, roIx, roIsN, roF, roL, datas, List.map_cons, List.map_nil, entry, List.length_cons, List.length_nil, List.cons_append, List.nil_append, List.replicate, List.replicate_succ, List.replicate_zero, Nat.reduceAdd, Nat.reduceSub, Nat.zero_add,
  List.getElem?_cons_zero, List.getElem?_cons_succ, List.set_cons_zero, List.set_cons_succ, dat_sh, dat_ow, dat_dp, DL.isInt, DL.isBool, DL.isStr, DL.isLst, DL.isTup, PinD, Bool.not_true, Bool.not_false, Bool.false_eq_true, if_true, if_false, true_and, and_true, OkAD, bodyEnds, pInt1, pInt2, fAbs, fMin, fMax, pIntOf, fIntOf, pLen, fLen, pSeq, fSeq, reduceIte, decide_eq_true_eq, ite_true, ite_false, Bool.and_eq_true, Bool.not_eq_true', roEq_int, Bool.true_xor, Bool.false_xor, Bool.true_eq_false])
theorem chkJ_get {d : D} {lo hi : Int} {z : Str} {Q : Sl → Prop} {E : Er → Prop} (h : WF f_chkJ [d, .int lo, .int hi, .str z] Q E) : z.length ≤ 1000 ∧ (isJ d).isSome = true ∧ (isJ d = some false → E (Er1 "WrongKind" z)) ∧ (∀ i, d = .int i → betw i lo hi = false → E (Er1 "OutOfRange" z)) ∧ ∀ i, d = .int i → betw i lo hi = true → Q (.sh .non) := by
  unfold WF f_chkJ at h
  simp only [] at h
  by_cases hz : z.length ≤ 1000
  · rw [if_pos hz] at h
    refine ⟨hz, ?_⟩
    cases d with
    | int i =>
      cases hb : betw i lo hi with
      | true =>
        simp only [hb, if_true] at h
        exact ⟨rfl, (fun z => by cases z), (fun j e b => by cases e; rw [hb] at b; cases b), (fun j e _ => h)⟩
      | false =>
        simp only [hb, Bool.false_eq_true, if_false] at h
        exact ⟨rfl, (fun z => by cases z), (fun j e b => h), (fun j e b => by cases e; rw [hb] at b; cases b)⟩
    | non => exact ⟨rfl, fun _ => h, (fun j e => by cases e), (fun j e => by cases e)⟩
    | bl b => exact ⟨rfl, fun _ => h, (fun j e => by cases e), (fun j e => by cases e)⟩
    | str b => exact ⟨rfl, fun _ => h, (fun j e => by cases e), (fun j e => by cases e)⟩
    | lst b => exact ⟨rfl, fun _ => h, (fun j e => by cases e), (fun j e => by cases e)⟩
    | tup b => exact ⟨rfl, fun _ => h, (fun j e => by cases e), (fun j e => by cases e)⟩
    | dic a b => exact ⟨rfl, fun _ => h, (fun j e => by cases e), (fun j e => by cases e)⟩
    | ins c fs ds =>
      cases hc : okI c with
      | true =>
        have e : isJ (.ins c fs ds) = some false := if_pos hc
        simp only [e, Option.map_some] at h
        exact ⟨by rw [e]; rfl, fun _ => h, (fun j e => by cases e), (fun j e => by cases e)⟩
      | false =>
        have e : isJ (.ins c fs ds) = none := if_neg (by rw [hc]; decide)
        simp only [e, Option.map_none] at h
    | _ => exact h.elim
  · rw [if_neg hz] at h
    exact h.elim
theorem isJ_ins {c : Str} {fs : List Str} {ds : List D} {b : Bool} (h : isJ (.ins c fs ds) = some b) : okI c = true ∧ b = false := by
  have h2 : (if okI c = true then some false else none) = some b := h
  by_cases hc : okI c = true
  · rw [if_pos hc] at h2; cases h2; exact ⟨hc, rfl⟩
  · rw [if_neg hc] at h2; cases h2
theorem isJ_int {d : D} (h : isJ d = some true) : ∃ i, d = .int i := by
  cases d with
  | int i => exact ⟨i, rfl⟩
  | ins c fs ds => have := isJ_ins h; cases this.2
  | _ => cases h
theorem isJ_false {d : D} (h : isJ d = some false) : ∀ i, d ≠ .int i := fun i e => by subst e; cases h
theorem sat_holds_integer : ∀ ds Q E', W_holds_integer ds Q E' → p_holds_integer (bodyEnds Q) (entry 1 ds) (fun e _ => E' e) := by
  rintro ds Q E' ⟨d, b, rfl, hd, hq⟩
  unfold p_holds_integer
  cases d with
  | ins c fs ds =>
    obtain ⟨hc, rfl⟩ := isJ_ins hd
    walk_at "dl"
    simp only [insF, hc]
    walk_at "dl"
    exact bodyR hq
  | non => cases hd; walk_at "dl"; simp only [insF]; walk_at "dl"; exact bodyR hq
  | int i => cases hd; walk_at "dl"; simp only [insF]; walk_at "dl"; exact bodyR hq
  | bl b => cases hd; walk_at "dl"; simp only [insF]; walk_at "dl"; exact bodyR hq
  | str b => cases hd; walk_at "dl"; simp only [insF]; walk_at "dl"; exact bodyR hq
  | lst b => cases hd; walk_at "dl"; simp only [insF]; walk_at "dl"; exact bodyR hq
  | tup b => cases hd; walk_at "dl"; simp only [insF]; walk_at "dl"; exact bodyR hq
  | dic a b => cases hd; walk_at "dl"; simp only [insF]; walk_at "dl"; exact bodyR hq
  | _ => cases hd
theorem bounds_get {ds : List D} {Q : Sl → Prop} {E : Er → Prop} (h : W_check_bounds ds Q E) : ∃ d z lo hi, ds = [d, .str z, .int lo, .int hi] ∧ WF f_chkJ [d, .int lo, .int hi, .str z] Q E := by
  have hl := len_check_bounds ds Q E h
  match ds, hl, h with
  | [d, y, a, b], _, h =>
    cases y with
    | str z => cases a with
      | int lo => cases b with
        | int hi => exact ⟨_, _, _, _, rfl, h⟩
        | _ => exact (show False from h).elim
      | _ => exact (show False from h).elim
    | _ => exact (show False from h).elim
theorem sat_check_bounds : ∀ ds Q E', W_check_bounds ds Q E' → p_check_bounds (bodyEnds Q) (entry 4 ds) (fun e _ => E' e) := by
  intro ds Q E' h
  obtain ⟨d, z, lo, hi, rfl, h⟩ := bounds_get h
  obtain ⟨hz, hs, h1, h2, h3⟩ := chkJ_get h
  have hz2 : z.length ≤ 100000 := by omega
  unfold p_check_bounds
  refine wSeq_k ?_
  intro N1 hN1
  walk_at "dl"
  cases hd : isJ d with
  | none => rw [hd] at hs; cases hs
  | some b =>
    refine ⟨d, b, rfl, hd, ?_⟩
    cases b with
    | false => exact ⟨hz2, h1 hd⟩
    | true =>
      refine hN1 _ ?_
      obtain ⟨i, rfl⟩ := isJ_int hd
      refine wSeq_i ?_
      walk_at "dl"
      cases hb : betw i lo hi with
      | false =>
        have k := h2 i rfl hb
        unfold betw at hb
        simp only [Bool.and_eq_false_iff, decide_eq_false_iff_not] at hb
        by_cases hc : i < lo
        · rw [if_pos hc]; exact ⟨hz2, k⟩
        · rw [if_neg hc, if_pos (by omega)]; exact ⟨hz2, k⟩
      | true =>
        have k := h3 i rfl hb
        unfold betw at hb
        simp only [Bool.and_eq_true, decide_eq_true_eq] at hb
        rw [if_neg (by omega), if_neg (by omega)]
        exact bodyR k
end C
set_option Elab.async false
set_option maxRecDepth 100000
set_option maxHeartbeats 1000000
set_option linter.unusedVariables false
namespace C
open PySem PySem.Spec PyProof.Rows L2 NdefX DL
local macro_rules | `(tactic| walk_at "dl") => `(tactic| simp only [wSeq, wLc, wTrue, wRaise0, wRaiseL, wSplit, wJoin, wFs, wSlS1, wSlS2, wAug, wItemsC, wEnum, pStr, fStr, pIntS, fIntS, roInS, orF, NoExc, dgTwo, wItemsT, wSlS0, wIsdig, roMulS, roInL, wIndexS, wSum, pSum, fSum, lk_wide, lk_held, okT_T, wFld, wGet, wMeth, wOwn2, wOwnI, wOwn1, wOwnLen, wOwnStr, wRevT, wZip, wItemsLT, wTupD, wLstD, wMv, isOwn, insOf, iStm, iFld, iEnd, pSumT, fSumT, wNever, tb, eq_self, exists_eq_left', Option.some.injEq, lackN,  wIf, wNext, wBreak, wCont, wRet, wRetN, wDrop, wSet, wTest, wAndB, wOrB, wNotB, wIsi, wVar, wC, wOp, wRaise, wCall, wCons, wNil, wFun, wPar, wTup, wNeg, wUn, wIfE, wAndV, wOrV, wNotV, wUnp2, wLst, wIxO, wLenO, wSetIx, wAppend, wDic0, wFor, wItemsL, wItemsS, wRng1, wRng2, wListRev, dgName, roAdd, roI, roI0, roB, roIx, roIsN, roF, roL, datas, List.map_cons, List.map_nil, entry, List.length_cons, List.length_nil, List.cons_append, List.nil_append, List.replicate, List.replicate_succ, List.replicate_zero, Nat.reduceAdd, Nat.reduceSub, Nat.zero_add,
  List.getElem?_cons_zero, List.getElem?_cons_succ, List.set_cons_zero, List.set_cons_succ, dat_sh, dat_ow, dat_dp, DL.isInt, DL.isBool, DL.isStr, DL.isLst, DL.isTup, PinD, Bool.not_true, Bool.not_false, Bool.false_eq_true, if_true, if_false, true_and, and_true, OkAD, bodyEnds, pInt1, pInt2, fAbs, fMin, fMax, pIntOf, fIntOf, pLen, fLen, pSeq, fSeq, reduceIte, decide_eq_true_eq, ite_true, ite_false, Bool.and_eq_true, Bool.not_eq_true', roEq_int, Bool.true_xor, Bool.false_xor, Bool.true_eq_false])
theorem bxor_n (a b : Nat) : Builtin.bitXor (a : Int) (b : Int) = ((a ^^^ b : Nat) : Int) := by
  rw [Bits.bitXor_pp (by omega) (by omega), Int.toNat_natCast, Int.toNat_natCast]
theorem xor_lt {w m x : Nat} (hm : m < 2 ^ w) (hx : x < 2 ^ w) : m ^^^ x < 2 ^ w := Nat.xor_lt_two_pow hm hx
theorem lc_rowN {n : Nat} {i : Nat} {we : DT Sl} {R : List D → DEnv → Prop} {ρ : DEnv} (g : Nat → D) (hn : n ≤ 1000) (hu : ρ.set i .un = ρ)
    (he : ∀ x : Nat, x < n → ∀ (Q : Sl → DEnv → Prop) (E : EC), Q (.sh (g x)) (ρ.set i (.sh (.int x))) → we (ρ.set i (.sh (.int x))) Q E) (h : R ((List.range n).map g) ρ) : lcD i wTrue we R (rangeD 0 n) [] ρ := by
  rw [rangeD_map]
  exact lcD_all (fun (k : Nat) => D.int k) g (List.range n) (fun x hx => he x (List.mem_range.mp hx)) hu (by rw [List.length_range]; omega) h
theorem TB.at {w : Nat} {l : List Nat} (h : TB w l) {x : Nat} (hx : x < 2 ^ w) : l.getD x 0 ≤ 1 := by
  have hl : x < l.length := by rw [h.len]; exact hx
  rw [List.getD_eq_getElem?_getD, List.getElem?_eq_getElem hl]
  exact h.bit _ (List.getElem_mem hl)
theorem onesN_le (l : List Nat) (m : Nat) : onesN l m ≤ l.length := by
  unfold onesN
  have : ∀ r : List Nat, (r.map fun x => if l.getD x 0 = l.getD (m ^^^ x) 0 then 0 else 1).sum ≤ r.length := fun r => by
    induction r with
    | nil => exact Nat.le_refl _
    | cons a r ih => rw [List.map_cons, List.sum_cons, List.length_cons]; split <;> omega
  have h := this (List.range l.length)
  rw [List.length_range] at h
  exact h
theorem sum_ints (g : Nat → Nat) : ∀ r : List Nat, ((r.map fun x => D.int (g x : Nat)).map intOf).sum = (((r.map g).sum : Nat) : Int)
  | [] => rfl
  | a :: r => by
    rw [List.map_cons, List.map_cons, List.sum_cons, sum_ints g r, List.map_cons, List.sum_cons, Int.natCast_add]
    rfl
theorem sat_counted_votes : ∀ ds Q E', W_counted_votes ds Q E' → p_counted_votes (bodyEnds Q) (entry 4 ds) (fun e _ => E' e) := by
  rintro ds Q E' ⟨w, l, m, rfl, hT, hm, hq⟩
  have h64 := hT.le
  unfold p_counted_votes
  refine wSeq_k ?_
  intro N1 hN1
  walk_at "dl"
  refine ⟨by rw [nD_len]; omega, .inl rfl, ?_⟩
  rw [nD_len, Int.toNat_natCast]
  refine lc_rowN (fun x => .int ((if l.getD x 0 = l.getD (m ^^^ x) 0 then 0 else 1 : Nat) : Nat)) (by omega) rfl (fun x hx Q0 E0 q0 => ?_) fun p => ⟨⟨(List.range l.length).map fun x => ((if l.getD x 0 = l.getD (m ^^^ x) 0 then 0 else 1 : Nat) : Int), by rw [List.map_map]; rfl⟩, ?_⟩
  · walk_at "dl"
    refine ⟨_, atD_nD (by omega) (by omega), ?_⟩
    rw [bxor_n]
    have hx2 : x < 2 ^ w := by rw [← hT.len]; exact hx
    have hy := xor_lt hm hx2
    refine ⟨_, atD_nD (by omega) (by rw [hT.len]; omega), ?_⟩
    have h1 := hT.at hx2
    have h2 := hT.at hy
    rw [Int.toNat_natCast, Int.toNat_natCast]
    have e : Builtin.bitXor ((l.getD x 0 : Nat) : Int) ((l.getD (m ^^^ x) 0 : Nat) : Int) = ((if l.getD x 0 = l.getD (m ^^^ x) 0 then 0 else 1 : Nat) : Int) := by
      have h3 : l.getD x 0 = 0 ∨ l.getD x 0 = 1 := by omega
      have h4 : l.getD (m ^^^ x) 0 = 0 ∨ l.getD (m ^^^ x) 0 = 1 := by omega
      rcases h3 with h3 | h3 <;> rcases h4 with h4 | h4 <;> rw [h3, h4] <;> decide +kernel
    show Q0 (.sh (.int (Builtin.bitXor ((l.getD x 0 : Nat) : Int) ((l.getD (m ^^^ x) 0 : Nat) : Int)))) _
    rw [e]
    exact q0
  · rw [sum_ints]
    refine hN1 _ ?_
    refine wSeq_i ?_
    walk_at "dl"
    rw [nD_len]
    exact bodyR hq
theorem call_cv {w m : Nat} {l : List Nat} {Q : Sl → Prop} {E : Er → Prop} (h : TB w l) (hm : m < 2 ^ w) (q : Q (.sh (votesD l m))) : W_counted_votes [.tup (nD l), .int (m : Nat)] Q E := ⟨w, l, m, rfl, h, hm, q⟩
/-- what a question about a word says of it -/
theorem wordJ_cases {w : Nat} {x : D} {g : Nat → D} {r : Kd} (h : wordJ w x g = some r) : (isJ x = some false ∧ r = .error (Er1 "WrongKind" "word")) ∨ (∃ i, x = .int i ∧ betw i 0 (2 ^ w - 1) = false ∧ r = .error (Er1 "OutOfRange" "word")) ∨ ∃ m : Nat, x = .int m ∧ m < 2 ^ w ∧ r = .ok (g m) := by
  have k : WF f_chkJ [x, .int 0, .int (2 ^ w - 1), .str "word"] (fun _ => ∃ i, x = .int i ∧ r = .ok (g i.toNat)) (fun e => r = .error e) := by
    unfold WF
    unfold wordJ at h
    cases hc : f_chkJ [x, .int 0, .int (2 ^ w - 1), .str "word"] with
    | none => rw [hc] at h; cases h
    | some s =>
      rw [hc] at h
      cases s with
      | error e => cases h; rfl
      | ok v =>
        cases x with
        | int i => cases h; exact ⟨i, rfl, rfl⟩
        | _ => cases h
  obtain ⟨_, hs, h1, h2, h3⟩ := chkJ_get k
  cases hd : isJ x with
  | none => rw [hd] at hs; cases hs
  | some b =>
    cases b with
    | false => exact .inl ⟨rfl, h1 hd⟩
    | true =>
      obtain ⟨i, rfl⟩ := isJ_int hd
      cases hb : betw i 0 (2 ^ w - 1) with
      | false => exact .inr (.inl ⟨i, rfl, hb, h2 i rfl hb⟩)
      | true =>
        obtain ⟨i', e, er⟩ := h3 i rfl hb
        cases e
        have hi : 0 ≤ i ∧ i ≤ 2 ^ w - 1 := by unfold betw at hb; simp only [Bool.and_eq_true, decide_eq_true_eq] at hb; exact hb
        obtain ⟨m, rfl⟩ : ∃ m : Nat, i = m := ⟨i.toNat, by omega⟩
        rw [Int.toNat_natCast] at er
        exact .inr (.inr ⟨m, rfl, by have := pow_i w; omega, er⟩)
theorem word_len : ("word" : Str).length ≤ 1000 := by decide +kernel
theorem call_bounds {w : Nat} {x : D} {g : Nat → D} {r : Kd} {Q : Sl → Prop} {E : Er → Prop} (h : wordJ w x g = some r) (h1 : ∀ m : Nat, x = .int m → m < 2 ^ w → r = .ok (g m) → Q (.sh .non)) (h2 : ∀ e, r = .error e → E e) : W_check_bounds [x, .str "word", .int 0, .int (2 ^ w - 1)] Q E := by
  have k : WF f_chkJ [x, .int 0, .int (2 ^ w - 1), .str "word"] Q E := by
    unfold WF f_chkJ
    simp only [word_len, if_true]
    rcases wordJ_cases h with ⟨hx, rfl⟩ | ⟨i, rfl, hb, rfl⟩ | ⟨m, rfl, hm, er⟩
    · cases x with
      | int i => cases hx
      | _ => simp only [hx, Option.map_some]; exact h2 _ rfl
    · simp only [hb]; exact h2 _ rfl
    · have hb : betw (m : Int) 0 (2 ^ w - 1) = true := by
        unfold betw
        have := pow_i w
        simp only [Bool.and_eq_true, decide_eq_true_eq]
        omega
      simp only [hb, if_true]
      exact h1 m rfl hm er
  exact k
theorem chkP {d : D} {Q : Sl → Prop} {E : Er → Prop} (h : (isT d).isSome = true) (h1 : isT d = some true → Q (.sh .non)) (h2 : isT d = some false → E (Er1 "WrongKind" "table")) : W_check_table_pairs [d, .str "table"] Q E := call_chkT tbl_len h h1 h2
theorem isT_no {w : Nat} {l : List Nat} {P : Prop} (h : isT (tb w l) = some false) : P := by
  have := (isT_tb (w := w) (l := l)).symm.trans h
  cases this
theorem sat_votes_at : ∀ ds Q E', W_votes_at ds Q E' → p_votes_at (bodyEnds Q) (entry 2 ds) (fun e _ => E' e) := by
  rintro ds Q E' ⟨d, x, r, rfl, hv, h1, h2⟩
  unfold p_votes_at
  refine wSeq_k ?_
  intro N1 hN1
  walk_at "dl"
  cases hv with
  | bad hd => exact chkP (by rw [hd]; rfl) (fun e => by rw [hd] at e; cases e) (fun _ => h2 _ rfl)
  | @good w l _ _ hT hr =>
    refine chkP rfl (fun _ => hN1 _ ?_) isT_no
    refine wSeq_k ?_
    intro N2 hN2
    walk_at "dl"
    refine ⟨w, l, rfl, hT, ?_⟩
    obtain ⟨p1, p2, p3, p4, p5⟩ := pw_facts hT.w6
    have w6 := hT.w6
    try walk_at "dl"
    have e1 : (1 : Int) * 2 ^ ((w : Nat) : Int).toNat = 2 ^ w := by rw [Int.toNat_natCast, Int.one_mul]
    rw [e1]
    refine ⟨⟨by omega, by omega, by decide⟩, call_bounds hr (fun m e hm er => hN2 _ ?_) h2⟩
    subst e
    refine wSeq_i ?_
    walk_at "dl"
    refine ⟨w, l, rfl, hT, ?_⟩
    try walk_at "dl"
    exact call_cv hT hm (bodyR (h1 _ er))
theorem wordJ_kind {w : Nat} {x : D} {g : Nat → D} (h : isJ x = some false) : wordJ w x g = some (.error (Er1 "WrongKind" "word")) := by
  unfold wordJ f_chkJ
  simp only [word_len, if_true]
  cases x with
  | int i => cases h
  | _ => simp only [h, Option.map_some]
theorem wordJ_range {w : Nat} {i : Int} {g : Nat → D} (h : betw i 0 (2 ^ w - 1) = false) : wordJ w (.int i) g = some (.error (Er1 "OutOfRange" "word")) := by
  unfold wordJ f_chkJ
  simp only [word_len, if_true, h]
  rfl
theorem wordJ_ok {w m : Nat} {g : Nat → D} (h : m < 2 ^ w) : wordJ w (.int m) g = some (.ok (g m)) := by
  have hb : betw (m : Int) 0 (2 ^ w - 1) = true := by
    unfold betw
    have := pow_i w
    simp only [Bool.and_eq_true, decide_eq_true_eq]
    omega
  unfold wordJ f_chkJ
  simp only [word_len, if_true, hb, Int.toNat_natCast]
theorem sat_margin : ∀ ds Q E', W_margin ds Q E' → p_margin (bodyEnds Q) (entry 4 ds) (fun e _ => E' e) := by
  rintro ds Q E' ⟨d, x, r, rfl, hv, h1, h2⟩
  unfold p_margin
  refine wSeq_k ?_
  intro N1 hN1
  walk_at "dl"
  cases hv with
  | bad hd => exact ⟨d, x, _, rfl, .bad hd, (fun v e => by cases e), fun e he => h2 _ he⟩
  | @good w l _ _ hT hr =>
    rcases wordJ_cases hr with ⟨hx, rfl⟩ | ⟨i, rfl, hb, rfl⟩ | ⟨m, rfl, hm, rfl⟩
    · exact ⟨_, x, _, rfl, .good hT (wordJ_kind hx), (fun v e => by cases e), fun e he => h2 _ he⟩
    · exact ⟨_, _, _, rfl, .good hT (wordJ_range hb), (fun v e => by cases e), fun e he => h2 _ he⟩
    · refine ⟨_, _, _, rfl, .good hT (wordJ_ok hm), (fun v e => ?_), fun e he => by cases he⟩
      cases e
      unfold votesD
      refine hN1 _ ?_
      refine wSeq_i ?_
      walk_at "dl"
      exact bodyR (h1 _ rfl)
theorem call_votes {g : List Nat → Nat → D} {d x : D} {r : Kd} {Q : Sl → Prop} {E : Er → Prop} (h : VotesR g d x r) (h1 : ∀ v, r = .ok v → Q (.sh v)) (h2 : ∀ e, r = .error e → E e) : W_votes g [d, x] Q E := ⟨d, x, r, rfl, h, h1, h2⟩
theorem sat_law_ask : ∀ ds Q E', W_law_ask ds Q E' → p_law_ask (bodyEnds Q) (entry 2 ds) (fun e _ => E' e) := by
  rintro ds Q E' ⟨k, d, x, r, rfl, hv, h1, h2⟩
  have h1' : ∀ v, r = .ok v → ∃ y, Cv (.sh v) y ∧ Q y := fun v e => bodyR (h1 v e)
  unfold p_law_ask
  rcases hv with ⟨rfl | rfl, hv⟩ | ⟨rfl | rfl, hv⟩
  · refine wSeq_i ?_
    walk_at "dl"
    simp only [at0, at1]
    exact call_votes hv h1' h2
  · refine wSeq_k ?_
    intro N1 hN1
    walk_at "dl"
    refine hN1 _ ?_
    refine wSeq_k ?_
    intro N2 hN2
    walk_at "dl"
    refine hN2 _ ?_
    refine wSeq_i ?_
    walk_at "dl"
    simp only [at0, at1]
    exact call_votes hv h1' h2
  · refine wSeq_k ?_
    intro N1 hN1
    walk_at "dl"
    refine hN1 _ ?_
    refine wSeq_i ?_
    walk_at "dl"
    simp only [at0, at1]
    exact call_votes hv h1' h2
  · refine wSeq_k ?_
    intro N1 hN1
    walk_at "dl"
    refine hN1 _ ?_
    refine wSeq_k ?_
    intro N2 hN2
    walk_at "dl"
    refine hN2 _ ?_
    refine wSeq_k ?_
    intro N3 hN3
    walk_at "dl"
    refine hN3 _ ?_
    refine wSeq_i ?_
    walk_at "dl"
    simp only [at0, at1]
    exact call_votes hv h1' h2
theorem sat_law_refusal (pn : Addr × Obj) : ∀ ds Q E', W_law_refusal pn ds Q E' → p_law_refusal pn (bodyEnds Q) (entry 2 ds) (fun e _ => E' e) := by
  rintro ds Q E' ⟨⟨c, a, rfl, hc⟩, h, _⟩
  have hq := h _ ⟨c, a, rfl, rfl⟩
  have h1 : errs.contains c = true ∧ errNames.contains c = true ∧ okX c = true ∧ fieldOf c = "argument" ∧ inV (.str c) [.str "WrongKind", .str "WrongSize", .str "OutOfRange"] = true := by
    rcases hc with rfl | rfl | rfl <;> decide +kernel
  obtain ⟨h1, h2, h3, h4, h5⟩ := h1
  unfold p_law_refusal
  refine wSeq_i ?_
  walk_at "dl"
  refine ⟨⟨c, some a, rfl, h2⟩, fun z ⟨c', a', e, ez⟩ => ?_, fun _ z => z.elim⟩
  cases e
  rw [ez]
  walk_at "dl"
  have ev : ∀ c a p o, errs.contains c = true → isVE errs (.exc c a p o) = some true := fun c a p o h => by show (if errs.contains c = true then some true else none) = _; rw [if_pos h]
  simp only [ev _ _ _ _ h1, at0, Int.natCast_one, decide_true, Bool.true_eq_false, if_false, List.mem_singleton, true_and]
  intro p
  refine ⟨_, _, rfl, rfl, ?_⟩
  simp only [if_false, Bool.false_eq_true, h5]
  walk_at "dl"
  unfold wXf
  walk_at "dl"
  exact ⟨h3, h4, List.mem_singleton.mpr rfl, bodyR hq⟩
theorem votes_err {g : List Nat → Nat → D} {d x : D} {e : Er} (h : VotesR g d x (.error e)) : ∃ c z, e = ⟨c, some (.str z)⟩ ∧ (c = "WrongKind" ∨ c = "WrongSize" ∨ c = "OutOfRange") := by
  cases h with
  | bad hd => exact ⟨_, _, rfl, .inl rfl⟩
  | good hT hr =>
    rcases wordJ_cases hr with ⟨_, e⟩ | ⟨_, _, _, e⟩ | ⟨_, _, _, e⟩ <;> cases e
    · exact ⟨_, _, rfl, .inl rfl⟩
    · exact ⟨_, _, rfl, .inr (.inr rfl)⟩
theorem sat_law_told : ∀ ds Q E', W_law_told ds Q E' → p_law_told (bodyEnds Q) (entry 3 ds) (fun e _ => E' e) := by
  rintro ds Q E' ⟨k, d, x, r, rfl, hf, hq⟩
  unfold p_law_told
  refine wSeq_k fun N hN => ?_
  unfold wTry
  walk_at "dl"
  refine ⟨k, d, x, r, rfl, hf, fun v e => ?_, fun e he => ?_⟩
  · subst e
    walk_at "dl"
    exact bodyR hq
  · subst he
    have he : ∃ c z, e = ⟨c, some (.str z)⟩ ∧ (c = "WrongKind" ∨ c = "WrongSize" ∨ c = "OutOfRange") := by
      rcases hf with ⟨_, h⟩ | ⟨_, h⟩
      · exact votes_err h
      · exact votes_err h
    obtain ⟨c, z, rfl, hc⟩ := he
    have hce : errs.contains c = true := by rcases hc with rfl | rfl | rfl <;> decide +kernel
    have e1 : caSE errs c = some true := by unfold caSE; rw [if_pos hce]
    simp only [e1]
    intro a oe h1 h2
    try walk_at "dl"
    refine ⟨⟨c, .str z, rfl, hc⟩, fun v ⟨c', a', e, ev⟩ => ?_, fun _ z => z.elim⟩
    cases e
    rw [ev]
    exact bodyR hq
end C
set_option Elab.async false
set_option maxRecDepth 100000
set_option maxHeartbeats 1000000
set_option linter.unusedVariables false
namespace C
open PySem PySem.Spec PyProof.Rows L2 NdefX DL
local macro_rules | `(tactic| walk_at "dl") => `(tactic| simp only [wSeq, wLc, wTrue, wRaise0, wRaiseL, wSplit, wJoin, wFs, wSlS1, wSlS2, wAug, wItemsC, wEnum, pStr, fStr, pIntS, fIntS, roInS, orF, NoExc, dgTwo, wItemsT, wSlS0, wIsdig, roMulS, roInL, wIndexS, wSum, pSum, fSum, lk_wide, lk_held, okT_T, wFld, wGet, wMeth, wOwn2, wOwnI, wOwn1, wOwnLen, wOwnStr, wRevT, wZip, wItemsLT, wTupD, wLstD, wMv, isOwn, insOf, iStm, iFld, iEnd, pSumT, fSumT, wNever, tb, eq_self, exists_eq_left', Option.some.injEq, lackN,  wIf, wNext, wBreak, wCont, wRet, wRetN, wDrop, wSet, wTest, wAndB, wOrB, wNotB, wIsi, wVar, wC, wOp, wRaise, wCall, wCons, wNil, wFun, wPar, wTup, wNeg, wUn, wIfE, wAndV, wOrV, wNotV, wUnp2, wLst, wIxO, wLenO, wSetIx, wAppend, wDic0, wFor, wItemsL, wItemsS, wRng1, wRng2, wListRev, dgName, roAdd, roI, roI0, roB, roIx, roIsN, roF, roL, datas, List.map_cons, List.map_nil, entry, List.length_cons, List.length_nil, List.cons_append, List.nil_append, List.replicate, List.replicate_succ, List.replicate_zero, Nat.reduceAdd, Nat.reduceSub, Nat.zero_add,
  List.getElem?_cons_zero, List.getElem?_cons_succ, List.set_cons_zero, List.set_cons_succ, dat_sh, dat_ow, dat_dp, DL.isInt, DL.isBool, DL.isStr, DL.isLst, DL.isTup, PinD, Bool.not_true, Bool.not_false, Bool.false_eq_true, if_true, if_false, true_and, and_true, OkAD, bodyEnds, pInt1, pInt2, fAbs, fMin, fMax, pIntOf, fIntOf, pLen, fLen, pSeq, fSeq, reduceIte, decide_eq_true_eq, ite_true, ite_false, Bool.and_eq_true, Bool.not_eq_true', roEq_int, Bool.true_xor, Bool.false_xor, Bool.true_eq_false])
def preO (l : List Nat) (m k : Nat) : Nat := ((List.range k).map fun x => if l.getD x 0 = l.getD (m ^^^ x) 0 then 0 else 1).sum
theorem preO_succ (l : List Nat) (m k : Nat) : preO l m (k + 1) = preO l m k + (if l.getD k 0 = l.getD (m ^^^ k) 0 then 0 else 1) := by
  unfold preO
  rw [List.range_succ, List.map_append, List.sum_append]; simp
theorem sat_law_votes : ∀ ds Q E', W_law_votes ds Q E' → p_law_votes (bodyEnds Q) (entry 4 ds) (fun e _ => E' e) := by
  rintro ds Q E' ⟨w, l, m, rfl, hT, hm, hq⟩
  have h64 := hT.le
  unfold p_law_votes
  refine wSeq_k ?_
  intro N1 hN1
  walk_at "dl"
  refine hN1 _ ?_
  refine wSeq_k ?_
  intro N2 hN2
  walk_at "dl"
  refine ⟨by rw [nD_len]; omega, ?_⟩
  rw [nD_len, Int.toNat_natCast]
  refine forD_rng (n := l.length) (fun k ρ => ∃ x, ρ = [.sh (.lst (nD l)), .sh (.int m), .sh (.int (k - preO l m k)), x]) ?_ ?_ ⟨_, rfl⟩
  · rintro ρ ⟨x, rfl⟩
    refine hN2 _ ?_
    refine wSeq_i ?_
    walk_at "dl"
    rw [nD_len]
    have e : (l.length : Int) - (l.length - preO l m l.length) = (onesN l m : Nat) := by show _ = ((preO l m l.length : Nat) : Int); omega
    rw [e]
    exact bodyR hq
  · rintro k ρ hk ⟨x, rfl⟩ K hK
    simp only [dgName]
    walk_at "dl"
    have hk2 : k < 2 ^ w := by rw [← hT.len]; exact hk
    have hy := xor_lt hm hk2
    refine ⟨_, atD_nD (by omega) (by omega), ?_⟩
    rw [bxor_n]
    refine ⟨_, atD_nD (by omega) (by rw [hT.len]; omega), ?_⟩
    rw [Int.toNat_natCast, Int.toNat_natCast]
    try walk_at "dl"
    have hs := preO_succ l m k
    by_cases he : l.getD k 0 = l.getD (m ^^^ k) 0
    · rw [if_pos he] at hs
      rw [if_pos (by rw [he])]
      refine hK _ ⟨.sh (.int k), ?_⟩
      have e : (k : Int) - preO l m k + 1 = ((k + 1 : Nat) : Int) - (preO l m (k + 1) : Nat) := by omega
      rw [e]
    · rw [if_neg he] at hs
      rw [if_neg (by omega)]
      refine hK _ ⟨.sh (.int k), ?_⟩
      have e : (k : Int) - preO l m k = ((k + 1 : Nat) : Int) - (preO l m (k + 1) : Nat) := by omega
      rw [e]
theorem call_lv {w m : Nat} {l : List Nat} {Q : Sl → Prop} {E : Er → Prop} (h : TB w l) (hm : m < 2 ^ w) (q : Q (.sh (votesD l m))) : W_law_votes [.lst (nD l), .int (m : Nat)] Q E := ⟨w, l, m, rfl, h, hm, q⟩
theorem sat_law_due : ∀ ds Q E', W_law_due ds Q E' → p_law_due (bodyEnds Q) (entry 4 ds) (fun e _ => E' e) := by
  rintro ds Q E' ⟨k, w, l, m, rfl, hT, hm, hq⟩
  unfold p_law_due
  refine wSeq_k ?_
  intro N1 hN1
  walk_at "dl"
  refine call_lv hT hm (hN1 _ ?_)
  refine wSeq_k ?_
  intro N2 hN2
  walk_at "dl"
  unfold dueD at hq
  by_cases h0 : k = 0
  · rw [if_pos h0]
    rw [if_pos (.inl h0)] at hq
    exact bodyR hq
  rw [if_neg h0]
  by_cases h2 : k = 2
  · rw [if_pos h2]
    rw [if_pos (.inr h2)] at hq
    exact bodyR hq
  rw [if_neg h2]
  rw [if_neg (fun z => z.elim h0 h2)] at hq
  refine hN2 _ ?_
  refine wSeq_i ?_
  unfold votesD
  walk_at "dl"
  simp only [at0, at1]
  exact bodyR hq
theorem call_due {k : Int} {w m : Nat} {l : List Nat} {Q : Sl → Prop} {E : Er → Prop} (h : TB w l) (hm : m < 2 ^ w) (q : Q (.sh (dueD k l m))) : W_law_due [.int k, .lst (nD l), .int (m : Nat)] Q E := ⟨k, w, l, m, rfl, h, hm, q⟩
theorem call_lwidth {Q : Sl → Prop} {E : Er → Prop} (h : ∀ w : Nat, w ≤ 6 → Q (.sh (.int w))) : W_law_width [.sto, .int 0, .int 6] Q E :=
  ⟨⟨0, 6, rfl, by omega, by omega⟩, fun z ⟨lo, hi, w, e, ez, _, h2⟩ => by
    have e1 : (6 : Int) = hi := by injection e with _ e; injection e with e e'; injection e' with e' _; injection e'
    rw [ez]; exact h w (by omega), fun _ z => z.elim⟩
theorem call_lword {w : Nat} {Q : Sl → Prop} {E : Er → Prop} (hw : w ≤ 6) (h : ∀ m : Nat, m < 2 ^ w → Q (.sh (.int m))) : W_law_word [.sto, .int w] Q E :=
  ⟨⟨w, rfl, hw⟩, fun z ⟨w', m, e, ez, hm⟩ => by
    have e1 : (w : Int) = w' := by injection e with _ e; injection e with e _; injection e
    have e2 : w = w' := by omega
    subst e2
    rw [ez]; exact h m hm, fun _ z => z.elim⟩
theorem words_row {n : Nat} : ∀ {ys : List D}, (∀ y ∈ ys, ∃ m : Nat, m < n ∧ y = .int m) → ∃ ms : List Nat, ys = nD ms ∧ ∀ m ∈ ms, m < n
  | [], _ => ⟨[], rfl, fun m hm => by cases hm⟩
  | y :: ys, h => by
    obtain ⟨m, hm, rfl⟩ := h y List.mem_cons_self
    obtain ⟨ms, rfl, hl⟩ := words_row (ys := ys) fun z hz => h z (List.mem_cons_of_mem _ hz)
    exact ⟨m :: ms, rfl, fun c hc => by
      rcases List.mem_cons.mp hc with rfl | hc
      · exact hm
      · exact hl c hc⟩
theorem sat_law_here : ∀ ds Q E', W_law_here ds Q E' → p_law_here (bodyEnds Q) (entry 4 ds) (fun e _ => E' e) := by
  rintro ds Q E' ⟨⟨w, rfl, hw⟩, h, _⟩
  obtain ⟨p1, p2, p3, p4, p5⟩ := pw_facts hw
  have e1 : (1 : Int) * 2 ^ ((w : Nat) : Int).toNat = 2 ^ w := by rw [Int.toNat_natCast, Int.one_mul]
  unfold p_law_here
  refine wSeq_k ?_
  intro N1 hN1
  walk_at "dl"
  by_cases h5 : (w : Int) < 5
  · rw [if_pos h5, e1, p3]
    refine ⟨⟨by omega, by omega, by decide⟩, ⟨by omega, by omega⟩, .inl rfl, ?_⟩
    refine lc_rowN (fun x => .int (x : Nat)) (by omega) rfl (fun x hx Q0 E0 q0 => ?_) fun p => ?_
    · walk_at "dl"
      exact q0
    · have er : (List.range (2 ^ w)).map (fun x => D.int (x : Nat)) = nD (List.range (2 ^ w)) := rfl
      rw [er]
      exact ⟨_, .sh _ (fun z => by cases z), h _ ⟨w, _, rfl, rfl, fun m hm => List.mem_range.mp hm, (fun z => by have := congrArg List.length z; rw [List.length_range] at this; simp at this), by rw [List.length_range]; omega⟩⟩
  · rw [if_neg h5]
    refine hN1 _ ?_
    refine wSeq_i ?_
    walk_at "dl"
    intro p
    refine ⟨⟨by decide, by decide⟩, .inl rfl, ?_⟩
    refine lcD_J (P := fun y => ∃ m : Nat, m < 2 ^ w ∧ y = .int m) (fun ρ => ρ = [.sh .sto, .sh (.int w), .un, .un]) _ _ _ rfl (fun d hd ρ hj Q0 E0 q0 => ?_) (by rw [rangeD_len]; decide) fun ys ρ hj hl hP => ?_
    · subst hj
      try walk_at "dl"
      exact call_lword hw fun m hm => q0 _ _ ⟨m, hm, rfl⟩ rfl
    · obtain ⟨ms, rfl, hms⟩ := words_row hP
      rw [rangeD_len] at hl
      intro p2
      rw [nD_len] at hl
      have hl5 : ms.length = 5 := hl
      refine ⟨by rw [sizeLine_eq, List.nil_append, nD_len]; omega, fun p3 => ?_⟩
      rw [List.nil_append]
      have er : D.int 0 :: nD ms = nD (0 :: ms) := rfl
      rw [er]
      refine ⟨_, .sh _ (fun z => by cases z), h _ ⟨w, _, rfl, rfl, fun m hm => ?_, (fun z => by cases z), by rw [List.length_cons]; omega⟩⟩
      rcases List.mem_cons.mp hm with rfl | hm
      · exact Nat.two_pow_pos w
      · exact hms m hm
theorem call_here {w : Nat} (hw : w ≤ 6) {Q : Sl → Prop} {E : Er → Prop} (h : ∀ ms : List Nat, (∀ m ∈ ms, m < 2 ^ w) → ms ≠ [] → ms.length ≤ 64 → Q (.sh (.lst (nD ms)))) : W_law_here [.sto, .int w] Q E :=
  ⟨⟨w, rfl, hw⟩, fun z ⟨w', ms, e, ez, h1, h2, h3⟩ => by
    have e1 : (w : Int) = w' := by injection e with _ e; injection e with e _; injection e
    have e2 : w = w' := by omega
    subst e2
    rw [ez]; exact h ms h1 h2 h3, fun _ z => z.elim⟩
theorem pl_votes (n : Nat) (l : List Nat) (m : Nat) : pl (n + 2) (votesD l m) = true := by
  unfold votesD
  simp only [pl, List.all_cons, List.all_nil, Bool.and_true, List.length_cons, List.length_nil]
  rfl
theorem pl_due (n : Nat) (k : Int) (l : List Nat) (m : Nat) : pl (n + 2) (dueD k l m) = true := by
  unfold dueD
  split
  · exact pl_votes n l m
  · rfl
theorem ask_of {k : Int} {w : Nat} {l : List Nat} {x : D} (hk : k = 0 ∨ k = 1 ∨ k = 2 ∨ k = 3) (hT : TB w l) (hx : (isJ x).isSome = true) : ∃ r z, AskR k (tb w l) x r ∧ fltJ x (.int 0) (.int (2 ^ w - 1)) = some z ∧ PyData.canLay0 (.str z) = true ∧ ((z = "" ∧ ∃ m : Nat, x = .int m ∧ m < 2 ^ w ∧ r = .ok (dueD k l m)) ∨ (z ≠ "" ∧ r = .error (Er1 z "word"))) := by
  have nk : ("WrongKind" : Str) ≠ "" := by decide +kernel
  have no : ("OutOfRange" : Str) ≠ "" := by decide +kernel
  have mk : ∀ g : List Nat → Nat → D, ∀ r, wordJ w x (g l) = some r → VotesR g (tb w l) x r := fun g r h => .good hT h
  have ask : ∀ (rg : (List Nat → Nat → D) → Kd), (∀ g, wordJ w x (g l) = some (rg g)) → AskR k (tb w l) x (if k = 0 ∨ k = 2 then rg votesD else rg marginD) := fun rg h => by
    by_cases h02 : k = 0 ∨ k = 2
    · rw [if_pos h02]; exact .inl ⟨h02, mk _ _ (h _)⟩
    · rw [if_neg h02]; exact .inr ⟨by omega, mk _ _ (h _)⟩
  cases hd : isJ x with
  | none => rw [hd] at hx; cases hx
  | some b =>
    cases b with
    | false =>
      refine ⟨_, "WrongKind", ask (fun _ => .error (Er1 "WrongKind" "word")) fun g => wordJ_kind hd, ?_, by decide +kernel, .inr ⟨nk, by split <;> rfl⟩⟩
      cases x with
      | int i => cases hd
      | ins c fs ds => exact if_pos (isJ_ins hd).1
      | _ => first | rfl | cases hd
    | true =>
      obtain ⟨i, rfl⟩ := isJ_int hd
      cases hb : betw i 0 (2 ^ w - 1) with
      | false =>
        refine ⟨_, "OutOfRange", ask (fun _ => .error (Er1 "OutOfRange" "word")) fun g => wordJ_range hb, ?_, by decide +kernel, .inr ⟨no, by split <;> rfl⟩⟩
        unfold betw at hb
        simp only [Bool.and_eq_false_iff, decide_eq_false_iff_not] at hb
        show some (if i < 0 ∨ 2 ^ w - 1 < i then ("OutOfRange" : Str) else "") = _
        rw [if_pos (by omega)]
      | true =>
        have hi : 0 ≤ i ∧ i ≤ 2 ^ w - 1 := by unfold betw at hb; simp only [Bool.and_eq_true, decide_eq_true_eq] at hb; exact hb
        obtain ⟨m, rfl⟩ : ∃ m : Nat, i = m := ⟨i.toNat, by omega⟩
        have hm : m < 2 ^ w := by have := pow_i w; omega
        refine ⟨_, "", ask (fun g => .ok (g l m)) fun g => wordJ_ok hm, ?_, by decide +kernel, .inl ⟨rfl, m, rfl, hm, ?_⟩⟩
        · show some (if (m : Int) < 0 ∨ 2 ^ w - 1 < (m : Int) then ("OutOfRange" : Str) else "") = _
          rw [if_neg (by omega)]
        · unfold dueD
          split <;> rfl
theorem call_told {k : Int} {d x : D} {r : Kd} {Q : Sl → Prop} {E : Er → Prop} (h : AskR k d x r) (q : Q (.sh (toldD r))) : W_law_told [.int k, .lst [d, x]] Q E := ⟨k, d, x, r, rfl, h, q⟩
end C
set_option Elab.async false
set_option maxRecDepth 100000
set_option maxHeartbeats 1000000
set_option linter.unusedVariables false
namespace C
open PySem PySem.Spec PyProof.Rows L2 NdefX DL
local macro_rules | `(tactic| walk_at "dl") => `(tactic| simp only [wSeq, wLc, wTrue, wRaise0, wRaiseL, wSplit, wJoin, wFs, wSlS1, wSlS2, wAug, wItemsC, wEnum, pStr, fStr, pIntS, fIntS, roInS, orF, NoExc, dgTwo, wItemsT, wSlS0, wIsdig, roMulS, roInL, wIndexS, wSum, pSum, fSum, lk_wide, lk_held, okT_T, wFld, wGet, wMeth, wOwn2, wOwnI, wOwn1, wOwnLen, wOwnStr, wRevT, wZip, wItemsLT, wTupD, wLstD, wMv, isOwn, insOf, iStm, iFld, iEnd, pSumT, fSumT, wNever, tb, eq_self, exists_eq_left', Option.some.injEq, lackN,  wIf, wNext, wBreak, wCont, wRet, wRetN, wDrop, wSet, wTest, wAndB, wOrB, wNotB, wIsi, wVar, wC, wOp, wRaise, wCall, wCons, wNil, wFun, wPar, wTup, wNeg, wUn, wIfE, wAndV, wOrV, wNotV, wUnp2, wLst, wIxO, wLenO, wSetIx, wAppend, wDic0, wFor, wItemsL, wItemsS, wRng1, wRng2, wListRev, dgName, roAdd, roI, roI0, roB, roIx, roIsN, roF, roL, datas, List.map_cons, List.map_nil, entry, List.length_cons, List.length_nil, List.cons_append, List.nil_append, List.replicate, List.replicate_succ, List.replicate_zero, Nat.reduceAdd, Nat.reduceSub, Nat.zero_add,
  List.getElem?_cons_zero, List.getElem?_cons_succ, List.set_cons_zero, List.set_cons_succ, dat_sh, dat_ow, dat_dp, DL.isInt, DL.isBool, DL.isStr, DL.isLst, DL.isTup, PinD, Bool.not_true, Bool.not_false, Bool.false_eq_true, if_true, if_false, true_and, and_true, OkAD, bodyEnds, pInt1, pInt2, fAbs, fMin, fMax, pIntOf, fIntOf, pLen, fLen, pSeq, fSeq, reduceIte, decide_eq_true_eq, ite_true, ite_false, Bool.and_eq_true, Bool.not_eq_true', roEq_int, Bool.true_xor, Bool.false_xor, Bool.true_eq_false])
theorem call_lcall {w : Nat} {l : List Nat} {Q : Sl → Prop} {E : Er → Prop} (h : TB w l) (q : Q (.sh (.bl true))) : W_law_call [.sto, tb w l, .int w, .lst (nD l)] Q E := ⟨w, l, rfl, h, q⟩
theorem call_first {l : List D} {d : D} {Q : Sl → Prop} {E : Er → Prop} (h : firstF l = some d) (q : Q (.sh d)) : W_law_first_fault [.lst l] Q E := WF_ok (d := d) (by simp only []; rw [h]; rfl) q
theorem sat_law_call : ∀ ds Q E', W_law_call ds Q E' → p_law_call (bodyEnds Q) (entry 10 ds) (fun e _ => E' e) := by
  rintro ds Q E' ⟨w, l, rfl, hT, hq⟩
  have w6 := hT.w6
  obtain ⟨p1, p2, p3, p4, p5⟩ := pw_facts w6
  have e1 : (1 : Int) * 2 ^ ((w : Nat) : Int).toNat = 2 ^ w := by rw [Int.toNat_natCast, Int.one_mul]
  unfold p_law_call
  refine wSeq_k ?_
  intro N1 hN1
  walk_at "dl"
  refine call_take bd_lit fun k k0 k1 => hN1 _ ?_
  have hk : k = 0 ∨ k = 1 ∨ k = 2 ∨ k = 3 := by omega
  refine wSeq_k ?_
  intro N2 hN2
  walk_at "dl"
  refine hN2 _ ?_
  refine wSeq_k ?_
  intro N3 hN3
  walk_at "dl"
  refine hN3 _ ?_
  refine wSeq_k ?_
  intro N4 hN4
  walk_at "dl"
  have lk : PyData.canLay0 (.str "WrongKind") = true := by decide +kernel
  have le : PyData.canLay0 (.str "") = true := by decide +kernel
  have nk : ¬ (("WrongKind" : Str) = "") := by decide +kernel
  have key : ∀ (s5 : D) (s6 : Str), (s5 = tb w l ∧ s6 = "" ∨ isT s5 = some false ∧ s6 = "WrongKind") → N4 [.sh .sto, .sh (tb w l), .sh (.int w), .sh (.lst (nD l)), .sh (.int k), .sh s5, .sh (.str s6), .un, .un, .un] := fun s5 s6 hs => by
    have l6 : PyData.canLay0 (.str s6) = true := by rcases hs with ⟨_, rfl⟩ | ⟨_, rfl⟩ <;> assumption
    refine hN4 _ ?_
    refine wSeq_k ?_
    intro N5 hN5
    walk_at "dl"
    refine call_lword w6 fun m hm => hN5 _ ?_
    refine wSeq_k ?_
    intro N6 hN6
    walk_at "dl"
    have key2 : ∀ x, (isJ x).isSome = true → N6 [.sh .sto, .sh (tb w l), .sh (.int w), .sh (.lst (nD l)), .sh (.int k), .sh s5, .sh (.str s6), .sh x, .un, .un] := fun x hx => by
      obtain ⟨r, z, ha, hf, lz, hz⟩ := ask_of hk hT hx
      refine hN6 _ ?_
      refine wSeq_k ?_
      intro N7 hN7
      walk_at "dl"
      rw [e1]
      refine ⟨⟨by omega, by omega, by decide⟩, call_nfJ hf ?_⟩
      try walk_at "dl"
      intro p1
      have fin : ∀ (fd : D) (r' : Kd), AskR k s5 x r' → firstF [.tup [.str "table", .str s6], .tup [.str "word", .str z]] = some fd → (fd = .non ∧ (∃ m : Nat, x = .int m ∧ m < 2 ^ w ∧ r' = .ok (dueD k l m)) ∨ ∃ c q : Str, fd = .tup [.str c, .str q] ∧ r' = .error (Er1 c q) ∧ PyData.canLay0 (.str c) = true ∧ PyData.canLay0 (.str q) = true) → W_law_first_fault [.lst [.tup [.str "table", .str s6], .tup [.str "word", .str z]]] (fun z => N7 [.sh .sto, .sh (tb w l), .sh (.int w), .sh (.lst (nD l)), .sh (.int k), .sh s5, .sh (.str s6), .sh x, z, .un]) E' := fun fd r' ha hfd hc => by
        refine call_first hfd (hN7 _ ?_)
        refine wSeq_k ?_
        intro N8 hN8
        walk_at "dl"
        intro p2
        refine call_told ha (hN8 _ ?_)
        rcases hc with ⟨rfl, m, rfl, hm, rfl⟩ | ⟨c, q, rfl, rfl, lc, lq⟩
        · refine wSeq_k ?_
          intro N9 hN9
          walk_at "dl"
          refine hN9 _ ?_
          refine wSeq_i ?_
          walk_at "dl"
          refine call_due hT hm ?_
          try walk_at "dl"
          refine call_same ?_ (bodyR hq)
          have e := pl_due 3 k l m
          have la : PyData.canLay0 (.str "answer") = true := by decide +kernel
          show (decide ((2 : Nat) ≤ 100000) && ([.str "answer", dueD k l m] : List D).all (pl 5)) = true
          have e2 : pl 5 (.str "answer") = true := la
          simp only [List.all_cons, List.all_nil, e, e2, Bool.and_true]
          rfl
        · refine wSeq_i ?_
          walk_at "dl"
          refine call_same ?_ (bodyR hq)
          have lr : PyData.canLay0 (.str "refused") = true := by decide +kernel
          simp only [toldD, pl, lr, lc, lq, List.all_cons, List.all_nil, Bool.and_true, List.length_cons, List.length_nil]
          rfl
      have lw : PyData.canLay0 (.str "word") = true := by decide +kernel
      have lt : PyData.canLay0 (.str "table") = true := by decide +kernel
      rcases hs with ⟨rfl, rfl⟩ | ⟨h5, rfl⟩
      · rcases hz with ⟨rfl, m, rfl, hm, rfl⟩ | ⟨hz, rfl⟩
        · refine fin .non _ ha ?_ (.inl ⟨rfl, m, rfl, hm, rfl⟩)
          simp only [firstF, le, if_true]
        · refine fin (.tup [.str z, .str "word"]) _ ha ?_ (.inr ⟨z, "word", rfl, rfl, lz, lw⟩)
          simp only [firstF, le, lz, if_true]
          rw [if_neg hz]
      · refine fin (.tup [.str "WrongKind", .str "table"]) (.error (Er1 "WrongKind" "table")) ?_ ?_ (.inr ⟨_, "table", rfl, rfl, lk, lt⟩)
        · rcases hk with rfl | rfl | rfl | rfl
          · exact .inl ⟨.inl rfl, .bad h5⟩
          · exact .inr ⟨.inl rfl, .bad h5⟩
          · exact .inl ⟨.inr rfl, .bad h5⟩
          · exact .inr ⟨.inr rfl, .bad h5⟩
        · simp only [firstF, lk, if_true]
          rw [if_neg nk]
    refine call_take bd_lit fun t t0 t1 => ?_
    try walk_at "dl"
    by_cases ht : t > 0
    · rw [if_pos ht]
      try walk_at "dl"
      rw [e1]
      exact ⟨⟨by omega, by omega, by decide⟩, call_oddJ w6 fun d hd => key2 d hd⟩
    · rw [if_neg ht]
      exact key2 _ rfl
  refine call_take bd_lit fun t t0 t1 => ?_
  try walk_at "dl"
  by_cases ht : t = 0
  · rw [if_pos ht]
    try walk_at "dl"
    exact call_oddT fun d hd => key d _ (.inr ⟨hd, rfl⟩)
  · rw [if_neg ht]
    exact key _ _ (.inl ⟨rfl, rfl⟩)
end C
set_option Elab.async false
set_option maxRecDepth 100000
set_option maxHeartbeats 1000000
set_option linter.unusedVariables false
namespace C
open PySem PySem.Spec PyProof.Rows L2 NdefX DL
local macro_rules | `(tactic| walk_at "dl") => `(tactic| simp only [wSeq, wLc, wTrue, wRaise0, wRaiseL, wSplit, wJoin, wFs, wSlS1, wSlS2, wAug, wItemsC, wEnum, pStr, fStr, pIntS, fIntS, roInS, orF, NoExc, dgTwo, wItemsT, wSlS0, wIsdig, roMulS, roInL, wIndexS, wSum, pSum, fSum, lk_wide, lk_held, okT_T, wFld, wGet, wMeth, wOwn2, wOwnI, wOwn1, wOwnLen, wOwnStr, wRevT, wZip, wItemsLT, wTupD, wLstD, wMv, isOwn, insOf, iStm, iFld, iEnd, pSumT, fSumT, wNever, tb, eq_self, exists_eq_left', Option.some.injEq, lackN,  wIf, wNext, wBreak, wCont, wRet, wRetN, wDrop, wSet, wTest, wAndB, wOrB, wNotB, wIsi, wVar, wC, wOp, wRaise, wCall, wCons, wNil, wFun, wPar, wTup, wNeg, wUn, wIfE, wAndV, wOrV, wNotV, wUnp2, wLst, wIxO, wLenO, wSetIx, wAppend, wDic0, wFor, wItemsL, wItemsS, wRng1, wRng2, wListRev, dgName, roAdd, roI, roI0, roB, roIx, roIsN, roF, roL, datas, List.map_cons, List.map_nil, entry, List.length_cons, List.length_nil, List.cons_append, List.nil_append, List.replicate, List.replicate_succ, List.replicate_zero, Nat.reduceAdd, Nat.reduceSub, Nat.zero_add,
  List.getElem?_cons_zero, List.getElem?_cons_succ, List.set_cons_zero, List.set_cons_succ, dat_sh, dat_ow, dat_dp, DL.isInt, DL.isBool, DL.isStr, DL.isLst, DL.isTup, PinD, Bool.not_true, Bool.not_false, Bool.false_eq_true, if_true, if_false, true_and, and_true, OkAD, bodyEnds, pInt1, pInt2, fAbs, fMin, fMax, pIntOf, fIntOf, pLen, fLen, pSeq, fSeq, reduceIte, decide_eq_true_eq, ite_true, ite_false, Bool.and_eq_true, Bool.not_eq_true', roEq_int, Bool.true_xor, Bool.false_xor, Bool.true_eq_false])
theorem mono_store_call : Mono (wCall W_law_store (wCons (wVar 0) wNil)) := wCall_mono mono_law_store (fun ρ Q Q' E E' hq he h => by
  unfold wCons wVar at h ⊢
  split at h
  · exact h.elim
  · exact h.elim
  · exact hq _ _ h)
theorem sat_store_call : ∀ ns, (wCall W_law_store (wCons (wVar 0) wNil)) (entry 12 [.scr ns]) (fun z ρ1 => ρ1 = entry 12 [.scr ns] ∧ ∃ q m, z = .ow q [.lst (ns.map .int), .int 0, .int 0, .int m, .int 0]) noE := by
  intro ns
  walk_at "dl"
  refine ⟨⟨ns, rfl⟩, fun z ⟨ns', q, m, e, ez⟩ => ?_, fun _ z => z.elim⟩
  cases e
  exact ⟨q, m, ez⟩
theorem onesN_0 {w : Nat} {l : List Nat} (h : TB w l) : onesN l 0 = 0 := by
  unfold onesN
  have : ∀ r : List Nat, (r.map fun x => if l.getD x 0 = l.getD (0 ^^^ x) 0 then 0 else 1).sum = 0 := fun r => by
    induction r with
    | nil => rfl
    | cons a r ih => rw [List.map_cons, List.sum_cons, ih, Nat.zero_xor, if_pos rfl]
  exact this _
theorem good_votes {g : List Nat → Nat → D} {w m : Nat} {l : List Nat} {Q : Sl → Prop} {E : Er → Prop} (h : TB w l) (hm : m < 2 ^ w) (q : Q (.sh (g l m))) : W_votes g [tb w l, .int (m : Nat)] Q E :=
  call_votes (.good h (wordJ_ok hm)) (fun v e => by cases e; exact q) fun e z => by cases z
theorem call_ask2 {k : Int} (hk : k = 0 ∨ k = 1) {w m : Nat} {l : List Nat} {Q : Sl → Prop} {E : Er → Prop} (h : TB w l) (hm : m < 2 ^ w) (q : Q (.sh (dueD k l m))) : W_law_ask [.int k, .lst [tb w l, .int (m : Nat)]] Q E := by
  rcases hk with rfl | rfl
  · exact ⟨0, _, _, _, rfl, .inl ⟨.inl rfl, .good h (wordJ_ok hm)⟩, (fun v e => by cases e; exact q), fun e z => by cases z⟩
  · exact ⟨1, _, _, _, rfl, .inr ⟨.inl rfl, .good h (wordJ_ok hm)⟩, (fun v e => by cases e; exact q), fun e z => by cases z⟩
theorem sat_law : ∀ ns, p_law ⟨fun _ => False, fun z _ => z = .sh (.bl true), fun _ => False, fun _ => False⟩ ((entry 12 [.scr ns]).set 1 (.sh .sto)) noE := by
  intro ns
  unfold p_law
  refine wSeq_k ?_
  intro N1 hN1
  walk_at "dl"
  refine call_lwidth fun w hw => hN1 _ ?_
  refine wSeq_k ?_
  intro N2 hN2
  walk_at "dl"
  refine call_bits hw fun l a => hN2 _ ?_
  refine wSeq_k ?_
  intro N3 hN3
  walk_at "dl"
  refine call_bits hw fun m b => hN3 _ ?_
  refine wSeq_k ?_
  intro N4 hN4
  walk_at "dl"
  intro p1
  refine call_mk a (hN4 _ ?_)
  refine wSeq_k ?_
  intro N5 hN5
  walk_at "dl"
  intro p2
  refine call_mk b (hN5 _ ?_)
  refine wSeq_k ?_
  intro N6 hN6
  walk_at "dl"
  refine call_here hw fun ms h1 h2 h3 => hN6 _ ?_
  refine wSeq_k ?_
  intro N7 hN7
  walk_at "dl"
  refine forD_ind (fun ds ρ => (∀ d ∈ ds, ∃ x : Nat, d = .int x ∧ x < 2 ^ w) ∧ ∃ s8 s9, ρ = [.sh (.scr ns), .sh .sto, .sh (.int w), .sh (.lst (nD l)), .sh (.lst (nD m)), .sh (tb w l), .sh (tb w m), .sh (.lst (nD ms)), s8, s9, .un, .un]) ?_ ?_ _ _ ⟨fun d hd => ?_, _, _, rfl⟩
  · rintro ρ ⟨_, s8, s9, rfl⟩
    refine hN7 _ ?_
    clear hN7
    obtain ⟨q1, q2, q3, q4, q5⟩ := pw_facts hw
    have e1 : (1 : Int) * 2 ^ ((w : Nat) : Int).toNat = 2 ^ w := by rw [Int.toNat_natCast, Int.one_mul]
    have z0 : 0 < 2 ^ w := Nat.two_pow_pos w
    refine wSeq_k ?_
    intro N8 hN8
    walk_at "dl"
    have ev : votesD l 0 = .tup [.int (2 ^ w), .int 0] := by
      unfold votesD
      rw [onesN_0 a, a.len, pow_i]
      simp
    have em : marginD m 0 = .int (2 ^ w) := by
      unfold marginD
      rw [onesN_0 b, b.len, pow_i]
      simp
    have w6 := hw
    refine good_votes (m := 0) a z0 ?_
    rw [ev]
    try walk_at "dl"
    refine good_votes (m := 0) b z0 ?_
    rw [em]
    try walk_at "dl"
    intro p3
    rw [e1]
    refine ⟨⟨by omega, by omega, by decide⟩, ⟨by omega, by omega, by decide⟩, fun p4 => call_same rfl ?_⟩
    refine hN8 _ ?_
    clear hN8
    refine wSeq_k ?_
    intro N9 hN9
    walk_at "dl"
    refine ⟨⟨by decide, by decide⟩, forD_rng (fun k ρ => ∃ s, ρ = [.sh (.scr ns), .sh .sto, .sh (.int w), .sh (.lst (nD l)), .sh (.lst (nD m)), .sh (tb w l), .sh (tb w m), .sh (.lst (nD ms)), s8, s9, s, .un]) ?_ ?_ ⟨_, rfl⟩⟩
    · rintro ρ ⟨s, rfl⟩
      refine hN9 _ ?_
      clear hN9
      refine wSeq_k ?_
      intro N10 hN10
      walk_at "dl"
      refine call_pick (l := nD ms) (by cases ms with | nil => exact absurd rfl h2 | cons => exact fun z => by cases z) (by rw [nD_len]; omega) fun d hd => hN10 _ ?_
      obtain ⟨x, hx, rfl⟩ := List.mem_map.mp hd
      have hx := h1 x hx
      have ed : dueD 1 l x = marginD l x := if_neg (by decide)
      refine wSeq_k ?_
      intro N11 hN11
      walk_at "dl"
      refine (show W_votes_at [tb w l, .int (x : Nat)] _ _ from good_votes a hx ?_)
      try walk_at "dl"
      refine call_lv a hx ?_
      try walk_at "dl"
      refine call_same (pl_votes 4 l x) ?_
      refine hN11 _ ?_
      clear hN11
      refine wSeq_k ?_
      intro N12 hN12
      walk_at "dl"
      refine (show W_margin [tb w l, .int (x : Nat)] _ _ from good_votes a hx ?_)
      try walk_at "dl"
      refine call_due a hx ?_
      try walk_at "dl"
      rw [ed]
      refine call_same rfl ?_
      refine hN12 _ ?_
      refine wSeq_i ?_
      walk_at "dl"
      refine call_istab a ?_
      try walk_at "dl"
      refine call_istab b ?_
      try walk_at "dl"
    · rintro k ρ hk ⟨s, rfl⟩ K hK
      simp only [dgName]
      walk_at "dl"
      refine call_lcall a ?_
      try walk_at "dl"
      exact hK _ ⟨_, rfl⟩
  · rintro d ds ρ ⟨hd, s8, s9, rfl⟩ K hK
    obtain ⟨x, rfl, hx⟩ := hd _ List.mem_cons_self
    simp only [dgName]
    refine wSeq_k ?_
    intro N8 hN8
    walk_at "dl"
    refine call_take bd_lit fun t t0 t1 => hN8 _ ?_
    refine wSeq_k ?_
    intro N9 hN9
    walk_at "dl"
    refine good_votes a hx ?_
    try walk_at "dl"
    refine call_lv a hx ?_
    try walk_at "dl"
    refine call_same (pl_votes 4 l x) ?_
    try walk_at "dl"
    refine good_votes a hx ?_
    try walk_at "dl"
    refine call_due a hx ?_
    have ed : dueD 1 l x = marginD l x := if_neg (by decide)
    rw [ed]
    refine call_same rfl ?_
    refine hN9 _ ?_
    refine wSeq_i ?_
    walk_at "dl"
    intro p3
    refine call_ask2 (by omega) b hx ?_
    try walk_at "dl"
    refine call_due b hx ?_
    try walk_at "dl"
    refine call_same (pl_due 4 t m x) ?_
    try walk_at "dl"
    exact hK _ ⟨fun d hd2 => hd d (List.mem_cons_of_mem _ hd2), _, _, rfl⟩
  · obtain ⟨x, hx, rfl⟩ := List.mem_map.mp hd
    exact ⟨x, rfl, h1 x hx⟩
end C
set_option Elab.async false
set_option maxRecDepth 100000
set_option maxHeartbeats 4000000
set_option linter.unusedVariables false
/-! each def keeps its promise; printed by gen_defs.py -/
namespace C
open PySem PySem.Spec PyProof.Rows L2 NdefX DL H44
theorem ok_check_integer_tables {P : Program} {w : World} {K : PySem.W.Frag} {mg : Str → Option Value} {base : Heap} {f : Addr} {fd : FuncData}  (F : FunD K "check_integer" "check_integer" (defArgs s_check_integer_tables) (defBody s_check_integer_tables) (defScope s_check_integer_tables) [] [] f fd) (hm : mg "check_integer_tables" = some (.ref f)) (T : Bt mg free) (Y : ErF K mg errs) (E_WrongKind : ErC P w K mg base "WrongKind") :
    FD P w K mg base 3 "check_integer_tables" 2 W_check_integer_tables := by
  have sc : FnScope ["argument", "value"] ["argument", "value"] (defScope s_check_integer_tables) := ⟨rfl, rfl, rfl, by decide +kernel, rfl, by decide +kernel, by decide +kernel⟩
  exact fdA_ok mono_check_integer_tables F sc hm len_check_integer_tables (fun _ _ _ _ _ _ us hl => match us, hl with | [_, _], _ => rfl) (fun cdv A outer s H E so B hr tk => ⟨p_check_integer_tables, (have hu := hr.units; (dss_cons (ds_if (DW.db (dw_or (db_val (de_isiT (T := "bool") (n := "bool") rfl (T.of "isinstance") (T.of "bool") (by decide +kernel) isBool_ok (de_var 1))) (dw_or1 (db_not (db_val (de_isiT (T := "int") (n := "int") rfl (T.of "isinstance") (T.of "int") (by decide +kernel) isInt_ok (de_var 1))))))) (dss_cons (ds_raise E_WrongKind rfl (hr.mono (by decide)) rfl tk (de_var 0))
    dss_nil) dss_nil)
    dss_nil)), sat_check_integer_tables⟩)
theorem ok_check_between_tables {P : Program} {w : World} {K : PySem.W.Frag} {mg : Str → Option Value} {base : Heap} {f : Addr} {fd : FuncData}  (F : FunD K "check_between" "check_between" (defArgs s_check_between) (defBody s_check_between) (defScope s_check_between) [] [] f fd) (hm : mg "check_between" = some (.ref f)) (T : Bt mg free) (Y : ErF K mg errs) (E_OutOfRange : ErC P w K mg base "OutOfRange") (F_check_integer_tables : FD P w K mg base 3 "check_integer_tables" 2 W_check_integer_tables) :
    FD P w K mg base 4 "check_between" 4 W_check_between_tables := by
  have sc : FnScope ["argument", "value", "least", "most"] ["argument", "value", "least", "most"] (defScope s_check_between) := ⟨rfl, rfl, rfl, by decide +kernel, rfl, by decide +kernel, by decide +kernel⟩
  exact fd_ok mono_check_between_tables F sc hm len_check_between_tables (fun _ _ _ _ _ _ us hl => match us, hl with | [_, _, _, _], _ => rfl) (fun cdv A outer s H E so B hr tk => ⟨p_check_between_tables, (have hu := hr.units; (dss_cons (ds_expr (de_call F_check_integer_tables (hr.mono (by decide)) rfl tk (da_cons (de_var 0) (da_cons (de_var 1) da_nil))))
    (dss_cons (ds_if (DW.db (dw_or (db_lt (de_var 1) (de_var 2)) (dw_or1 (db_gt (de_var 1) (de_var 3))))) (dss_cons (ds_raise E_OutOfRange rfl (hr.mono (by decide)) rfl tk (de_var 0))
    dss_nil) dss_nil)
    dss_nil))), sat_check_between_tables⟩)
theorem ok_check_width_tables {P : Program} {w : World} {K : PySem.W.Frag} {mg : Str → Option Value} {base : Heap} {f : Addr} {fd : FuncData} {t_MOST_WIDTH : Tok} (F : FunD K "check_width" "check_width" (defArgs s_check_width) (defBody s_check_width) (defScope s_check_width) [] [] f fd) (hm : mg "check_width" = some (.ref f)) (T : Bt mg free) (Y : ErF K mg errs) (m_MOST_WIDTH : mg "MOST_WIDTH" = some (.int 6 t_MOST_WIDTH)) (F_check_between_tables : FD P w K mg base 4 "check_between" 4 W_check_between_tables) :
    FD P w K mg base 5 "check_width" 1 W_check_width_tables := by
  have sc : FnScope ["width"] ["width"] (defScope s_check_width) := ⟨rfl, rfl, rfl, by decide +kernel, rfl, by decide +kernel, by decide +kernel⟩
  exact fd_ok mono_check_width_tables F sc hm len_check_width_tables (fun _ _ _ _ _ _ us hl => match us, hl with | [_], _ => rfl) (fun cdv A outer s H E so B hr tk => ⟨p_check_width_tables, (have hu := hr.units; (dss_cons (ds_expr (de_call F_check_between_tables (hr.mono (by decide)) rfl tk (da_cons de_str (da_cons (de_var 0) (da_cons de_int (da_cons (de_globI m_MOST_WIDTH) da_nil))))))
    dss_nil)), sat_check_width_tables⟩)
theorem ok_check_word_tables {P : Program} {w : World} {K : PySem.W.Frag} {mg : Str → Option Value} {base : Heap} {f : Addr} {fd : FuncData}  (F : FunD K "check_word" "check_word" (defArgs s_check_word_tables) (defBody s_check_word_tables) (defScope s_check_word_tables) [] [] f fd) (hm : mg "check_word_tables" = some (.ref f)) (T : Bt mg free) (Y : ErF K mg errs) (F_check_between_tables : FD P w K mg base 4 "check_between" 4 W_check_between_tables) :
    FD P w K mg base 5 "check_word_tables" 3 W_check_word_tables := by
  have sc : FnScope ["argument", "width", "word"] ["argument", "width", "word"] (defScope s_check_word_tables) := ⟨rfl, rfl, rfl, by decide +kernel, rfl, by decide +kernel, by decide +kernel⟩
  exact fdA_ok mono_check_word_tables F sc hm len_check_word_tables (fun _ _ _ _ _ _ us hl => match us, hl with | [_, _, _], _ => rfl) (fun cdv A outer s H E so B hr tk => ⟨p_check_word_tables, (have hu := hr.units; (dss_cons (ds_expr (de_call F_check_between_tables (hr.mono (by decide)) rfl tk (da_cons (de_var 0) (da_cons (de_var 2) (da_cons de_int (da_cons (de_sub (de_shl de_int (de_var 1)) de_int) da_nil))))))
    dss_nil)), sat_check_word_tables⟩)
theorem ok_check_row_tables {P : Program} {w : World} {K : PySem.W.Frag} {mg : Str → Option Value} {base : Heap} {f : Addr} {fd : FuncData}  (F : FunD K "check_row" "check_row" (defArgs s_check_row) (defBody s_check_row) (defScope s_check_row) [] [] f fd) (hm : mg "check_row" = some (.ref f)) (T : Bt mg free) (Y : ErF K mg errs) (E_WrongSize : ErC P w K mg base "WrongSize") (E_WrongKind : ErC P w K mg base "WrongKind") :
    FD P w K mg base 3 "check_row" 4 W_check_row_tables := by
  have sc : FnScope ["argument", "row", "least", "most"] ["argument", "row", "least", "most"] (defScope s_check_row) := ⟨rfl, rfl, rfl, by decide +kernel, rfl, by decide +kernel, by decide +kernel⟩
  exact fd_ok mono_check_row_tables F sc hm len_check_row_tables (fun _ _ _ _ _ _ us hl => match us, hl with | [_, _, _, _], _ => rfl) (fun cdv A outer s H E so B hr tk => ⟨p_check_row_tables, (have hu := hr.units; (dss_cons (ds_if (db_not (db_val (de_isi2 (T1 := "list") (T2 := "tuple") (n1 := "list") (n2 := "tuple") rfl (T.of "isinstance") (T.of "list") (by decide +kernel) (T.of "tuple") (by decide +kernel) isLst_ok isTup_ok (de_var 1)))) (dss_cons (ds_raise E_WrongKind rfl (hr.mono (by decide)) rfl tk (de_var 0))
    dss_nil) dss_nil)
    (dss_cons (ds_if (DW.db (dw_or (db_lt (de_len rfl (T.of "len") (da_cons (de_var 1) da_nil)) (de_var 2)) (dw_or1 (db_gt (de_len rfl (T.of "len") (da_cons (de_var 1) da_nil)) (de_var 3))))) (dss_cons (ds_raise E_WrongSize rfl (hr.mono (by decide)) rfl tk (de_var 0))
    dss_nil) dss_nil)
    dss_nil))), sat_check_row_tables⟩)
theorem ok_check_bits {P : Program} {w : World} {K : PySem.W.Frag} {mg : Str → Option Value} {base : Heap} {f : Addr} {fd : FuncData}  (F : FunD K "check_bits" "check_bits" (defArgs s_check_bits) (defBody s_check_bits) (defScope s_check_bits) [] [] f fd) (hm : mg "check_bits" = some (.ref f)) (T : Bt mg free) (Y : ErF K mg errs) (F_check_between_tables : FD P w K mg base 4 "check_between" 4 W_check_between_tables) (F_check_row_tables : FD P w K mg base 3 "check_row" 4 W_check_row_tables) :
    FD P w K mg base 5 "check_bits" 3 W_check_bits := by
  have sc : FnScope ["bits", "least", "most", "bit"] ["bits", "least", "most"] (defScope s_check_bits) := ⟨rfl, rfl, rfl, by decide +kernel, rfl, by decide +kernel, by decide +kernel⟩
  exact fd_ok mono_check_bits F sc hm len_check_bits (fun _ _ _ _ _ _ us hl => match us, hl with | [_, _, _], _ => rfl) (fun cdv A outer s H E so B hr tk => ⟨p_check_bits, (have hu := hr.units; (dss_cons (ds_expr (de_call F_check_row_tables (hr.mono (by decide)) rfl tk (da_cons de_str (da_cons (de_var 0) (da_cons (de_var 1) (da_cons (de_var 2) da_nil))))))
    (dss_cons (ds_for (passes_of rfl) rfl (di_lt rfl (de_var 0)) (dg_name 3 sc.nd) (dss_cons (ds_expr (de_call F_check_between_tables (hr.mono (by decide)) rfl tk (da_cons de_str (da_cons (de_var 3) (da_cons de_int (da_cons de_int da_nil))))))
    dss_nil))
    dss_nil))), sat_check_bits⟩)
theorem ok_Table_init {P : Program} {w : World} {K : PySem.W.Frag} {mg : Str → Option Value} {base : Heap} {f : Addr} {fd : FuncData}  (F : FunD K "__init__" "Table.__init__" m_Table_init.params m_Table_init.body m_Table_init.scope [] [] f fd) (T : Bt mg free) (Y : ErF K mg errs) (hNo_held : NoAttr K (He.ga K "Table") "held") (hNo_wide : NoAttr K (He.ga K "Table") "wide") (F_check_bits : FD P w K mg base 5 "check_bits" 3 W_check_bits) (F_check_width_tables : FD P w K mg base 5 "check_width" 1 W_check_width_tables) (O_Table : OwnK K mg "Table") (hC : Cls K (He.ga K "Table")) (hM : Mk K (He.ga K "Table") f) :
    FDi P w K mg base 6 "Table" 2 W_Table_init := by
  have sc : FnScope ["self", "width", "bits"] ["self", "width", "bits"] m_Table_init.scope := ⟨rfl, rfl, rfl, by decide +kernel, rfl, by decide +kernel, by decide +kernel⟩
  exact fdi_ok2 (wb := p_Table_init K) mono_Table_init O_Table.mg hM F sc rfl len_Table_init (fun _ _ _ _ _ _ us hl => match us, hl with | [_, _, _], _ => rfl) (fun cdv A outer s H E hr tk so B H0 a dx h1 h2 => (have hu := hr.units; (dis_stm h1 (fun B2 H2 => (ds_expr (de_call F_check_width_tables (hr.mono (by decide)) rfl tk (da_cons (de_var 1) da_nil))))
    (dis_stm h1 (fun B2 H2 => (ds_expr (de_call F_check_bits (hr.mono (by decide)) rfl tk (da_cons (de_var 2) (da_cons (de_shl de_int (de_var 1)) (da_cons (de_shl de_int (de_var 1)) da_nil))))))
    (dis_fld hC hNo_wide h1 h2 (fun B2 H2 => (de_var 1))
    (dis_fld hC hNo_held h1 h2 (fun B2 H2 => (de_tuple rfl (T.of "tuple") (da_cons (de_var 2) da_nil)))
    dis_end)))))) (fun a ds Q E h => sat_Table_init K a ds Q E h)
theorem ok_Table_width {P : Program} {w : World} {K : PySem.W.Frag} {mg : Str → Option Value} {base : Heap} {f : Addr} {fd : FuncData}  {p : Addr} (F : FunD K "width" "Table.width" m_Table_width.params m_Table_width.body m_Table_width.scope [] [] f fd) (T : Bt mg free) (Y : ErF K mg errs) (hFl_wide : ∀ c, okT c = true → FldK K c "wide") (hC : Cls K (He.ga K "Table")) (hM : PropOf K (He.ga K "Table") "width" p f) :
    FDg P w K mg base 1 "Table" "width" W_Table_width := by
  have sc : FnScope ["self"] ["self"] m_Table_width.scope := ⟨rfl, rfl, rfl, by decide +kernel, rfl, by decide +kernel, by decide +kernel⟩
  exact fdg_ok mono_Table_width hC hM F sc rfl len_Table_width (fun _ _ _ _ _ _ us hl => match us, hl with | [_], _ => rfl) (fun cdv A outer s H E so B hr tk => ⟨p_Table_width, (have hu := hr.units; (dss_cons (ds_ret (de_fld okT hFl_wide rfl (de_var 0)))
    dss_nil)), sat_Table_width⟩)
theorem ok_Table_bits {P : Program} {w : World} {K : PySem.W.Frag} {mg : Str → Option Value} {base : Heap} {f : Addr} {fd : FuncData}  {p : Addr} (F : FunD K "bits" "Table.bits" m_Table_bits.params m_Table_bits.body m_Table_bits.scope [] [] f fd) (T : Bt mg free) (Y : ErF K mg errs) (hFl_held : ∀ c, okT c = true → FldK K c "held") (hC : Cls K (He.ga K "Table")) (hM : PropOf K (He.ga K "Table") "bits" p f) :
    FDg P w K mg base 1 "Table" "bits" W_Table_bits := by
  have sc : FnScope ["self"] ["self"] m_Table_bits.scope := ⟨rfl, rfl, rfl, by decide +kernel, rfl, by decide +kernel, by decide +kernel⟩
  exact fdg_ok mono_Table_bits hC hM F sc rfl len_Table_bits (fun _ _ _ _ _ _ us hl => match us, hl with | [_], _ => rfl) (fun cdv A outer s H E so B hr tk => ⟨p_Table_bits, (have hu := hr.units; (dss_cons (ds_ret (de_fld okT hFl_held rfl (de_var 0)))
    dss_nil)), sat_Table_bits⟩)
theorem ok_holds_integer {P : Program} {w : World} {K : PySem.W.Frag} {mg : Str → Option Value} {base : Heap} {f : Addr} {fd : FuncData}  (F : FunD K "holds_integer" "holds_integer" (defArgs s_holds_integer) (defBody s_holds_integer) (defScope s_holds_integer) [] [] f fd) (hm : mg "holds_integer" = some (.ref f)) (T : Bt mg free) (Y : ErF K mg errs) (hIK : InsK K okI) :
    FD P w K mg base 1 "holds_integer" 1 W_holds_integer := by
  have sc : FnScope ["value"] ["value"] (defScope s_holds_integer) := ⟨rfl, rfl, rfl, by decide +kernel, rfl, by decide +kernel, by decide +kernel⟩
  exact fd_ok mono_holds_integer F sc hm len_holds_integer (fun _ _ _ _ _ _ us hl => match us, hl with | [_], _ => rfl) (fun cdv A outer s H E so B hr tk => ⟨p_holds_integer, (have hu := hr.units; (dss_cons (ds_ret (de_and (de_isiT (T := "int") (n := "int") rfl (T.of "isinstance") (T.of "int") (by decide +kernel) hIK.int (de_var 0)) (de_one (de_not (de_isiT (T := "bool") (n := "bool") rfl (T.of "isinstance") (T.of "bool") (by decide +kernel) hIK.bool (de_var 0))))))
    dss_nil)), sat_holds_integer⟩)
theorem ok_check_bounds {P : Program} {w : World} {K : PySem.W.Frag} {mg : Str → Option Value} {base : Heap} {f : Addr} {fd : FuncData}  (F : FunD K "check_bounds" "check_bounds" (defArgs s_check_bounds) (defBody s_check_bounds) (defScope s_check_bounds) [] [] f fd) (hm : mg "check_bounds" = some (.ref f)) (T : Bt mg free) (Y : ErF K mg errs) (E_OutOfRange : ErC P w K mg base "OutOfRange") (F_holds_integer : FD P w K mg base 1 "holds_integer" 1 W_holds_integer) (E_WrongKind : ErC P w K mg base "WrongKind") :
    FD P w K mg base 3 "check_bounds" 4 W_check_bounds := by
  have sc : FnScope ["value", "name", "least", "most"] ["value", "name", "least", "most"] (defScope s_check_bounds) := ⟨rfl, rfl, rfl, by decide +kernel, rfl, by decide +kernel, by decide +kernel⟩
  exact fd_ok mono_check_bounds F sc hm len_check_bounds (fun _ _ _ _ _ _ us hl => match us, hl with | [_, _, _, _], _ => rfl) (fun cdv A outer s H E so B hr tk => ⟨p_check_bounds, (have hu := hr.units; (dss_cons (ds_if (db_not (db_val (de_call F_holds_integer (hr.mono (by decide)) rfl tk (da_cons (de_var 0) da_nil)))) (dss_cons (ds_raise E_WrongKind rfl (hr.mono (by decide)) rfl tk (de_var 1))
    dss_nil) dss_nil)
    (dss_cons (ds_if (DW.db (dw_or (db_lt (de_var 0) (de_var 2)) (dw_or1 (db_gt (de_var 0) (de_var 3))))) (dss_cons (ds_raise E_OutOfRange rfl (hr.mono (by decide)) rfl tk (de_var 1))
    dss_nil) dss_nil)
    dss_nil))), sat_check_bounds⟩)
theorem ok_check_table_pairs {P : Program} {w : World} {K : PySem.W.Frag} {mg : Str → Option Value} {base : Heap} {f : Addr} {fd : FuncData}  (F : FunD K "check_table" "check_table" (defArgs s_check_table_pairs) (defBody s_check_table_pairs) (defScope s_check_table_pairs) [] [] f fd) (hm : mg "check_table_pairs" = some (.ref f)) (T : Bt mg free) (Y : ErF K mg errs) (O_Table : OwnK K mg "Table") (hIK : InsK K okI) (E_WrongKind : ErC P w K mg base "WrongKind") :
    FD P w K mg base 3 "check_table_pairs" 2 W_check_table_pairs := by
  have sc : FnScope ["value", "name"] ["value", "name"] (defScope s_check_table_pairs) := ⟨rfl, rfl, rfl, by decide +kernel, rfl, by decide +kernel, by decide +kernel⟩
  exact fdA_ok mono_check_table_pairs F sc hm len_check_table_pairs (fun _ _ _ _ _ _ us hl => match us, hl with | [_, _], _ => rfl) (fun cdv A outer s H E so B hr tk => ⟨p_check_table_pairs, (have hu := hr.units; (dss_cons (ds_if (db_not (db_val (de_isiC (T := "Table") rfl (T.of "isinstance") O_Table.mg (hIK.cls O_Table rfl) (de_var 0)))) (dss_cons (ds_raise E_WrongKind rfl (hr.mono (by decide)) rfl tk (de_var 1))
    dss_nil) dss_nil)
    dss_nil)), sat_check_table_pairs⟩)
theorem ok_counted_votes {P : Program} {w : World} {K : PySem.W.Frag} {mg : Str → Option Value} {base : Heap} {f : Addr} {fd : FuncData}  (F : FunD K "counted_votes" "counted_votes" (defArgs s_counted_votes) (defBody s_counted_votes) (defScope s_counted_votes) [] [] f fd) (hm : mg "counted_votes" = some (.ref f)) (T : Bt mg free) (Y : ErF K mg errs)  :
    FD P w K mg base 1 "counted_votes" 2 W_counted_votes := by
  have sc : FnScope ["bits", "word", "ones", "other"] ["bits", "word"] (defScope s_counted_votes) := ⟨rfl, rfl, rfl, by decide +kernel, rfl, by decide +kernel, by decide +kernel⟩
  exact fd_ok mono_counted_votes F sc hm len_counted_votes (fun _ _ _ _ _ _ us hl => match us, hl with | [_, _], _ => rfl) (fun cdv A outer s H E so B hr tk => ⟨p_counted_votes, (have hu := hr.units; (dss_cons (ds_set 2 sc.nd (de_sum rfl rfl (T.of "sum") (da_cons (de_lcA 3 rfl sc.nd (di_range1 (T.of "range") (da_cons (de_len rfl (T.of "len") (da_cons (de_var 0) da_nil)) da_nil)) (blkOk_of rfl) (fun _ _ _ _ _ => pg_name sc.nd rfl (by first | exact .inl rfl | exact .inr rfl)) (fun _ _ _ _ _ => (de_xor2 (de_ix rfl (de_var 0) (de_var 3)) (de_ix rfl (de_var 0) (de_xor2 (de_var 1) (de_var 3)))))) da_nil)))
    (dss_cons (ds_ret (de_tup (da_cons (de_sub (de_len rfl (T.of "len") (da_cons (de_var 0) da_nil)) (de_var 2)) (da_cons (de_var 2) da_nil))))
    dss_nil))), sat_counted_votes⟩)
theorem okK_votes_at_word_table {P : Program} {w : World} {K : PySem.W.Frag} {mg : Str → Option Value} {base : Heap} {f : Addr} {fd : FuncData}  (F : FunD K "votes_at" "votes_at" (defArgs s_votes_at) (defBody s_votes_at) (defScope s_votes_at) [] [] f fd) (hm : mg "votes_at" = some (.ref f)) (T : Bt mg free) (Y : ErF K mg errs) (G_Table_bits : FDg P w K mg base 1 "Table" "bits" W_Table_bits) (F_counted_votes : FD P w K mg base 1 "counted_votes" 2 W_counted_votes) (G_Table_width : FDg P w K mg base 1 "Table" "width" W_Table_width) (F_check_bounds : FD P w K mg base 3 "check_bounds" 4 W_check_bounds) (F_check_table_pairs : FD P w K mg base 3 "check_table_pairs" 2 W_check_table_pairs) :
    FDK P w K mg base 4 "votes_at" 2 ["word", "table"] [1, 0] W_votes_at := by
  have sc : FnScope ["table", "word"] ["table", "word"] (defScope s_votes_at) := ⟨rfl, rfl, rfl, by decide +kernel, rfl, by decide +kernel, by decide +kernel⟩
  exact fdk_ok mono_votes_at F sc hm len_votes_at (fun _ _ _ _ _ _ us hl => match us, hl with | [_, _], _ => rfl) (fun cdv A outer s H E so B hr tk => ⟨p_votes_at, (have hu := hr.units; (dss_cons (ds_expr (de_call F_check_table_pairs (hr.mono (by decide)) rfl tk (da_cons (de_var 0) (da_cons de_str da_nil))))
    (dss_cons (ds_expr (de_call F_check_bounds (hr.mono (by decide)) rfl tk (da_cons (de_var 1) (da_cons de_str (da_cons de_int (da_cons (de_sub (de_shl de_int (de_prop G_Table_width (hr.mono (by decide)) rfl (de_var 0))) de_int) da_nil))))))
    (dss_cons (ds_ret (de_call F_counted_votes (hr.mono (by decide)) rfl tk (da_cons (de_prop G_Table_bits (hr.mono (by decide)) rfl (de_var 0)) (da_cons (de_var 1) da_nil))))
    dss_nil)))), sat_votes_at⟩)
theorem ok_votes_at {P : Program} {w : World} {K : PySem.W.Frag} {mg : Str → Option Value} {base : Heap} {f : Addr} {fd : FuncData}  (F : FunD K "votes_at" "votes_at" (defArgs s_votes_at) (defBody s_votes_at) (defScope s_votes_at) [] [] f fd) (hm : mg "votes_at" = some (.ref f)) (T : Bt mg free) (Y : ErF K mg errs) (G_Table_bits : FDg P w K mg base 1 "Table" "bits" W_Table_bits) (F_counted_votes : FD P w K mg base 1 "counted_votes" 2 W_counted_votes) (G_Table_width : FDg P w K mg base 1 "Table" "width" W_Table_width) (F_check_bounds : FD P w K mg base 3 "check_bounds" 4 W_check_bounds) (F_check_table_pairs : FD P w K mg base 3 "check_table_pairs" 2 W_check_table_pairs) :
    FD P w K mg base 4 "votes_at" 2 W_votes_at := by
  have sc : FnScope ["table", "word"] ["table", "word"] (defScope s_votes_at) := ⟨rfl, rfl, rfl, by decide +kernel, rfl, by decide +kernel, by decide +kernel⟩
  exact fd_ok mono_votes_at F sc hm len_votes_at (fun _ _ _ _ _ _ us hl => match us, hl with | [_, _], _ => rfl) (fun cdv A outer s H E so B hr tk => ⟨p_votes_at, (have hu := hr.units; (dss_cons (ds_expr (de_call F_check_table_pairs (hr.mono (by decide)) rfl tk (da_cons (de_var 0) (da_cons de_str da_nil))))
    (dss_cons (ds_expr (de_call F_check_bounds (hr.mono (by decide)) rfl tk (da_cons (de_var 1) (da_cons de_str (da_cons de_int (da_cons (de_sub (de_shl de_int (de_prop G_Table_width (hr.mono (by decide)) rfl (de_var 0))) de_int) da_nil))))))
    (dss_cons (ds_ret (de_call F_counted_votes (hr.mono (by decide)) rfl tk (da_cons (de_prop G_Table_bits (hr.mono (by decide)) rfl (de_var 0)) (da_cons (de_var 1) da_nil))))
    dss_nil)))), sat_votes_at⟩)
theorem okK_margin_table_word {P : Program} {w : World} {K : PySem.W.Frag} {mg : Str → Option Value} {base : Heap} {f : Addr} {fd : FuncData}  (F : FunD K "margin" "margin" (defArgs s_margin) (defBody s_margin) (defScope s_margin) [] [] f fd) (hm : mg "margin" = some (.ref f)) (T : Bt mg free) (Y : ErF K mg errs) (F_votes_at : FD P w K mg base 4 "votes_at" 2 W_votes_at) :
    FDK P w K mg base 5 "margin" 2 ["table", "word"] [0, 1] W_margin := by
  have sc : FnScope ["table", "word", "zeros", "ones"] ["table", "word"] (defScope s_margin) := ⟨rfl, rfl, rfl, by decide +kernel, rfl, by decide +kernel, by decide +kernel⟩
  exact fdk_ok mono_margin F sc hm len_margin (fun _ _ _ _ _ _ us hl => match us, hl with | [_, _], _ => rfl) (fun cdv A outer s H E so B hr tk => ⟨p_margin, (have hu := hr.units; (dss_cons (ds_unp2 2 3 rfl rfl sc.nd (de_call F_votes_at (hr.mono (by decide)) rfl tk (da_cons (de_var 0) (da_cons (de_var 1) da_nil))))
    (dss_cons (ds_ret (de_sub (de_var 2) (de_var 3)))
    dss_nil))), sat_margin⟩)
theorem okK_margin_word_table {P : Program} {w : World} {K : PySem.W.Frag} {mg : Str → Option Value} {base : Heap} {f : Addr} {fd : FuncData}  (F : FunD K "margin" "margin" (defArgs s_margin) (defBody s_margin) (defScope s_margin) [] [] f fd) (hm : mg "margin" = some (.ref f)) (T : Bt mg free) (Y : ErF K mg errs) (F_votes_at : FD P w K mg base 4 "votes_at" 2 W_votes_at) :
    FDK P w K mg base 5 "margin" 2 ["word", "table"] [1, 0] W_margin := by
  have sc : FnScope ["table", "word", "zeros", "ones"] ["table", "word"] (defScope s_margin) := ⟨rfl, rfl, rfl, by decide +kernel, rfl, by decide +kernel, by decide +kernel⟩
  exact fdk_ok mono_margin F sc hm len_margin (fun _ _ _ _ _ _ us hl => match us, hl with | [_, _], _ => rfl) (fun cdv A outer s H E so B hr tk => ⟨p_margin, (have hu := hr.units; (dss_cons (ds_unp2 2 3 rfl rfl sc.nd (de_call F_votes_at (hr.mono (by decide)) rfl tk (da_cons (de_var 0) (da_cons (de_var 1) da_nil))))
    (dss_cons (ds_ret (de_sub (de_var 2) (de_var 3)))
    dss_nil))), sat_margin⟩)
theorem ok_margin {P : Program} {w : World} {K : PySem.W.Frag} {mg : Str → Option Value} {base : Heap} {f : Addr} {fd : FuncData}  (F : FunD K "margin" "margin" (defArgs s_margin) (defBody s_margin) (defScope s_margin) [] [] f fd) (hm : mg "margin" = some (.ref f)) (T : Bt mg free) (Y : ErF K mg errs) (F_votes_at : FD P w K mg base 4 "votes_at" 2 W_votes_at) :
    FD P w K mg base 5 "margin" 2 W_margin := by
  have sc : FnScope ["table", "word", "zeros", "ones"] ["table", "word"] (defScope s_margin) := ⟨rfl, rfl, rfl, by decide +kernel, rfl, by decide +kernel, by decide +kernel⟩
  exact fd_ok mono_margin F sc hm len_margin (fun _ _ _ _ _ _ us hl => match us, hl with | [_, _], _ => rfl) (fun cdv A outer s H E so B hr tk => ⟨p_margin, (have hu := hr.units; (dss_cons (ds_unp2 2 3 rfl rfl sc.nd (de_call F_votes_at (hr.mono (by decide)) rfl tk (da_cons (de_var 0) (da_cons (de_var 1) da_nil))))
    (dss_cons (ds_ret (de_sub (de_var 2) (de_var 3)))
    dss_nil))), sat_margin⟩)
theorem ok_check_table_asking {P : Program} {w : World} {K : PySem.W.Frag} {mg : Str → Option Value} {base : Heap} {f : Addr} {fd : FuncData}  (F : FunD K "check_table" "check_table" (defArgs s_check_table_asking) (defBody s_check_table_asking) (defScope s_check_table_asking) [] [] f fd) (hm : mg "check_table_asking" = some (.ref f)) (T : Bt mg free) (Y : ErF K mg errs) (O_Table : OwnK K mg "Table") (hIK : InsK K okI) (E_WrongKind : ErC P w K mg base "WrongKind") :
    FD P w K mg base 3 "check_table_asking" 1 W_check_table_asking := by
  have sc : FnScope ["table"] ["table"] (defScope s_check_table_asking) := ⟨rfl, rfl, rfl, by decide +kernel, rfl, by decide +kernel, by decide +kernel⟩
  exact fdA_ok mono_check_table_asking F sc hm len_check_table_asking (fun _ _ _ _ _ _ us hl => match us, hl with | [_], _ => rfl) (fun cdv A outer s H E so B hr tk => ⟨p_check_table_asking, (have hu := hr.units; (dss_cons (ds_if (db_not (db_val (de_isiC (T := "Table") rfl (T.of "isinstance") O_Table.mg (hIK.cls O_Table rfl) (de_var 0)))) (dss_cons (ds_raise E_WrongKind rfl (hr.mono (by decide)) rfl tk de_str)
    dss_nil) dss_nil)
    dss_nil)), sat_check_table_asking⟩)
theorem ok_Asked_init {P : Program} {w : World} {K : PySem.W.Frag} {mg : Str → Option Value} {base : Heap} {f : Addr} {fd : FuncData}  (F : FunD K "__init__" "Asked.__init__" m_Asked_init.params m_Asked_init.body m_Asked_init.scope [] [("limit", .non)] f fd) (T : Bt mg free) (Y : ErF K mg errs) (hNo_held_words : NoAttr K (He.ga K "Asked") "held_words") (hNo_held_limit : NoAttr K (He.ga K "Asked") "held_limit") (hNo_held_table : NoAttr K (He.ga K "Asked") "held_table") (m_MOST_LIMIT : mg "MOST_LIMIT" = some (.int 10000 t_MOST_LIMIT)) (F_check_integer_asking : FD P w K mg base 4 "check_integer_asking" 4 W_check_integer_asking) (F_check_table_asking : FD P w K mg base 3 "check_table_asking" 1 W_check_table_asking) (O_Asked : OwnK K mg "Asked") (hC : Cls K (He.ga K "Asked")) (hM : Mk K (He.ga K "Asked") f) :
    FDj P w K mg base 5 "Asked" 1 W_Asked_init := by
  have sc : FnScope ["self", "table", "limit"] ["self", "table", "limit"] m_Asked_init.scope := ⟨rfl, rfl, rfl, by decide +kernel, rfl, by decide +kernel, by decide +kernel⟩
  exact fdj_ok (wb := p_Asked_init K) mono_Asked_init O_Asked.mg hM F sc rfl len_Asked_init (fun D doc pm an cdv ct us ks hl hk => match us, ks, hl, hk with | [_, _], [_], _, _ => ⟨_, _, _, _, _, _, rfl, rfl, rfl⟩) (fun cdv A outer s H E hr tk so B H0 a dx h1 h2 => (have hu := hr.units; (dis_stm h1 (fun B2 H2 => (ds_expr (de_call F_check_table_asking (hr.mono (by decide)) rfl tk (da_cons (de_var 1) da_nil))))
    (dis_stm h1 (fun B2 H2 => (ds_if (db_notN (de_var 2) de_non) (dss_cons (ds_expr (de_call F_check_integer_asking (hr.mono (by decide)) rfl tk (da_cons (de_var 2) (da_cons de_int (da_cons (de_globI m_MOST_LIMIT) (da_cons de_str da_nil))))))
    dss_nil) dss_nil))
    (dis_fld hC hNo_held_table h1 h2 (fun B2 H2 => (de_var 1))
    (dis_fld hC hNo_held_limit h1 h2 (fun B2 H2 => (de_var 2))
    (dis_fld hC hNo_held_words h1 h2 (fun B2 H2 => (de_lst da_nil))
    dis_end))))))) (fun a ds Q E h => sat_Asked_init K a ds Q E h)
theorem ok_law_mixed {P : Program} {w : World} {K : PySem.W.Frag} {mg : Str → Option Value} {base : Heap} {f : Addr} {fd : FuncData}  (F : FunD K "_law_mixed" "_law_mixed" (defArgs s_law_mixed) (defBody s_law_mixed) (defScope s_law_mixed) [] [] f fd) (hm : mg "_law_mixed" = some (.ref f)) (T : Bt mg free) (Y : ErF K mg errs)  :
    FD P w K mg base 1 "_law_mixed" 2 W_law_mixed := by
  have sc : FnScope ["_law_cell", "_law_nth", "_law_low", "_law_high"] ["_law_cell", "_law_nth"] (defScope s_law_mixed) := ⟨rfl, rfl, rfl, by decide +kernel, rfl, by decide +kernel, by decide +kernel⟩
  exact fd_ok mono_law_mixed F sc hm len_law_mixed (fun _ _ _ _ _ _ us hl => match us, hl with | [_, _], _ => rfl) (fun cdv A outer s H E so B hr tk => ⟨p_law_mixed, (have hu := hr.units; (dss_cons (ds_set 2 sc.nd (de_mod (de_intOf (T.of "int") (da_cons (de_addA (de_addA (de_mul (de_mod (de_intOf (T.of "int") (da_cons (de_var 0) da_nil)) de_int) de_int) (de_mul (de_var 1) de_int)) de_int) da_nil)) de_int))
    (dss_cons (ds_set 3 sc.nd (de_mod (de_intOf (T.of "int") (da_cons (de_addA (de_addA (de_mul (de_var 2) (de_var 2)) (de_mul (de_var 1) de_int)) de_int) da_nil)) de_int))
    (dss_cons (ds_ret (de_mod (de_intOf (T.of "int") (da_cons (de_addA (de_addA (de_mul (de_fdiv (de_var 3) de_int) de_int) (de_mul (de_mod (de_intOf (T.of "int") (da_cons (de_var 3) da_nil)) de_int) de_int)) (de_mod (de_intOf (T.of "int") (da_cons (de_var 2) da_nil)) de_int)) da_nil)) de_int))
    dss_nil)))), sat_law_mixed⟩)
theorem ok_law_wide {P : Program} {w : World} {K : PySem.W.Frag} {mg : Str → Option Value} {base : Heap} {f : Addr} {fd : FuncData}  (F : FunD K "_law_wide" "_law_wide" (defArgs s_law_wide) (defBody s_law_wide) (defScope s_law_wide) [] [] f fd) (hm : mg "_law_wide" = some (.ref f)) (T : Bt mg free) (Y : ErF K mg errs) (F_law_mixed : FD P w K mg base 1 "_law_mixed" 2 W_law_mixed) :
    FD P w K mg base 2 "_law_wide" 3 W_law_wide := by
  have sc : FnScope ["_law_cell", "_law_nth", "_law_many", "_law_told_here", "_law_k"] ["_law_cell", "_law_nth", "_law_many"] (defScope s_law_wide) := ⟨rfl, rfl, rfl, by decide +kernel, rfl, by decide +kernel, by decide +kernel⟩
  exact fd_ok mono_law_wide F sc hm len_law_wide (fun _ _ _ _ _ _ us hl => match us, hl with | [_, _, _], _ => rfl) (fun cdv A outer s H E so B hr tk => ⟨p_law_wide, (have hu := hr.units; (dss_cons (ds_set 3 sc.nd (de_call F_law_mixed (hr.mono (by decide)) rfl tk (da_cons (de_var 0) (da_cons (de_var 1) da_nil))))
    (dss_cons (ds_for (passes_of rfl) rfl (di_range1 (T.of "range") (da_cons (de_fdiv (de_bits (de_var 2)) de_int) da_nil)) (dg_name 4 sc.nd) (dss_cons (ds_set 3 sc.nd (de_addA (de_mul (de_var 3) de_int) (de_call F_law_mixed (hr.mono (by decide)) rfl tk (da_cons (de_var 0) (da_cons (de_addA (de_var 1) (de_mul de_int (de_addA (de_var 4) de_int))) da_nil)))))
    dss_nil))
    (dss_cons (ds_ret (de_mod (de_intOf (T.of "int") (da_cons (de_var 3) da_nil)) (de_var 2)))
    dss_nil)))), sat_law_wide⟩)
theorem ok_law_store {P : Program} {w : World} {K : PySem.W.Frag} {mg : Str → Option Value} {base : Heap} {f : Addr} {fd : FuncData}  (F : FunD K "_law_store" "_law_store" (defArgs s_law_store) (defBody s_law_store) (defScope s_law_store) [] [] f fd) (hm : mg "_law_store" = some (.ref f)) (T : Bt mg free) (Y : ErF K mg errs)  :
    FD P w K mg base 1 "_law_store" 1 W_law_store := by
  have sc : FnScope ["_law_script", "_law_mixture", "_law_cell"] ["_law_script"] (defScope s_law_store) := ⟨rfl, rfl, rfl, by decide +kernel, rfl, by decide +kernel, by decide +kernel⟩
  exact fd_ok mono_law_store F sc hm len_law_store (fun _ _ _ _ _ _ us hl => match us, hl with | [_], _ => rfl) (fun cdv A outer s H E so B hr tk => ⟨p_law_store, (have hu := hr.units; (dss_cons (ds_set 1 sc.nd de_int)
    (dss_cons (ds_for (passes_of rfl) rfl (di_scr rfl (de_var 0)) (dg_name 2 sc.nd) (dss_cons (ds_set 1 sc.nd (de_mod (de_intOf (T.of "int") (da_cons (de_addA (de_addA (de_mul (de_var 1) de_int) (de_mod (de_intOf (T.of "int") (da_cons (de_var 2) da_nil)) de_int)) de_int) da_nil)) de_int))
    dss_nil))
    (dss_cons (ds_ret (de_lst (da_cons (de_list rfl (T.of "list") (da_cons (de_var 0) da_nil)) (da_cons de_int (da_cons de_int (da_cons (de_var 1) (da_cons de_int da_nil)))))))
    dss_nil)))), sat_law_store⟩)
theorem ok_law_take {P : Program} {w : World} {K : PySem.W.Frag} {mg : Str → Option Value} {base : Heap} {f : Addr} {fd : FuncData}  (F : FunD K "_law_take" "_law_take" (defArgs s_law_take) (defBody s_law_take) (defScope s_law_take) [] [] f fd) (hm : mg "_law_take" = some (.ref f)) (T : Bt mg free) (Y : ErF K mg errs) (F_law_wide : FD P w K mg base 2 "_law_wide" 3 W_law_wide) :
    FD P w K mg base 3 "_law_take" 2 W_law_take := by
  have sc : FnScope ["_law_store_here", "_law_many", "_law_cell", "_law_told_here"] ["_law_store_here", "_law_many"] (defScope s_law_take) := ⟨rfl, rfl, rfl, by decide +kernel, rfl, by decide +kernel, by decide +kernel⟩
  exact fd_sto mono_law_take F sc hm rfl (by decide) sto_law_take (fun _ _ _ _ _ _ us hl => match us, hl with | [_, _], _ => rfl) (fun cdv A outer s H E G g1 g2 hr tk => by
    obtain ⟨K1, so, B, H1, E1⟩ := G
    cases g1; cases g2
    exact ⟨p_law_take, (have hu := hr.units; (dss_cons (ds_if (db_lt (de_var 1) de_int) (dss_cons (ds_ret de_int)
    dss_nil) dss_nil)
    (dss_cons (ds_setix 0 rfl (de_addA (de_ixO 0 rfl de_int) de_int) de_int)
    (dss_cons (ds_if (DW.db (dw_and (db_eq hu rfl (de_ixO 0 rfl de_int) de_int) (dw_and1 (db_lt (de_ixO 0 rfl de_int) (de_len rfl (T.of "len") (da_cons (de_ixO 0 rfl de_int) da_nil)))))) (dss_cons (ds_set 2 sc.nd (de_intOf (T.of "int") (da_cons (de_ix rfl (de_ixO 0 rfl de_int) (de_ixO 0 rfl de_int)) da_nil)))
    (dss_cons (ds_setix 0 rfl (de_addA (de_ixO 0 rfl de_int) de_int) de_int)
    (dss_cons (ds_if (db_lt (de_var 2) (de_pow de_int de_int)) (dss_cons (ds_ret (de_call F_law_wide (hr.mono (by decide)) rfl tk (da_cons (de_var 2) (da_cons (de_ixO 0 rfl de_int) (da_cons (de_var 1) da_nil)))))
    dss_nil) dss_nil)
    (dss_cons (ds_setix 0 rfl (de_var 2) de_int)
    dss_nil)))) dss_nil)
    (dss_cons (ds_if (db_gt (de_ixO 0 rfl de_int) de_int) (dss_cons (ds_set 3 sc.nd (de_mod (de_intOf (T.of "int") (da_cons (de_ixO 0 rfl de_int) da_nil)) (de_var 1)))
    (dss_cons (ds_setix 0 rfl (de_fdiv (de_intOf (T.of "int") (da_cons (de_ixO 0 rfl de_int) da_nil)) (de_var 1)) de_int)
    (dss_cons (ds_ret (de_var 3))
    dss_nil))) dss_nil)
    (dss_cons (ds_ret (de_call F_law_wide (hr.mono (by decide)) rfl tk (da_cons (de_ixO 0 rfl de_int) (da_cons (de_ixO 0 rfl de_int) (da_cons (de_var 1) da_nil)))))
    dss_nil)))))), sat_law_take⟩)
theorem ok_law_same {P : Program} {w : World} {K : PySem.W.Frag} {mg : Str → Option Value} {base : Heap} {f : Addr} {fd : FuncData}  {n k : Nat} (F : FunD K "_law_same" "_law_same" (defArgs s_law_same) (defBody s_law_same) (defScope s_law_same) [] [] f fd) (hm : mg "_law_same" = some (.ref f)) (T : Bt mg free) (Y : ErF K mg errs) (F_law_same : FD P w K mg base k "_law_same" 2 (W_law_same n)) :
    FD P w K mg base (k + 1) "_law_same" 2 (W_law_same (n + 1)) := by
  have sc : FnScope ["_law_told_here", "_law_due_here", "_law_k"] ["_law_told_here", "_law_due_here"] (defScope s_law_same) := ⟨rfl, rfl, rfl, by decide +kernel, rfl, by decide +kernel, by decide +kernel⟩
  exact fd_ok (mono_law_same (n + 1)) F sc hm (len_law_same (n + 1)) (fun _ _ _ _ _ _ us hl => match us, hl with | [_, _], _ => rfl) (fun cdv A outer s H E so B hr tk => ⟨p_law_same n, (have hu := hr.units; (dss_cons (ds_if (db_isN (de_var 1) de_non) (dss_cons (ds_ret (de_isN (de_var 0) de_non))
    dss_nil) dss_nil)
    (dss_cons (ds_if (db_val (de_isiT (T := "bool") (n := "bool") rfl (T.of "isinstance") (T.of "bool") (by decide +kernel) isBool_ok (de_var 1))) (dss_cons (ds_ret (de_and (de_isiT (T := "bool") (n := "bool") rfl (T.of "isinstance") (T.of "bool") (by decide +kernel) isBool_ok (de_var 0)) (de_one (de_eq hu rfl (de_var 0) (de_var 1)))))
    dss_nil) dss_nil)
    (dss_cons (ds_if (db_val (de_isiT (T := "int") (n := "int") rfl (T.of "isinstance") (T.of "int") (by decide +kernel) isInt_ok (de_var 1))) (dss_cons (ds_ret (de_and (de_isiT (T := "int") (n := "int") rfl (T.of "isinstance") (T.of "int") (by decide +kernel) isInt_ok (de_var 0)) (de_and (de_not (de_isiT (T := "bool") (n := "bool") rfl (T.of "isinstance") (T.of "bool") (by decide +kernel) isBool_ok (de_var 0))) (de_one (de_eq hu rfl (de_var 0) (de_var 1))))))
    dss_nil) dss_nil)
    (dss_cons (ds_if (db_val (de_isiT (T := "str") (n := "str") rfl (T.of "isinstance") (T.of "str") (by decide +kernel) isStr_ok (de_var 1))) (dss_cons (ds_ret (de_and (de_isiT (T := "str") (n := "str") rfl (T.of "isinstance") (T.of "str") (by decide +kernel) isStr_ok (de_var 0)) (de_one (de_eq hu rfl (de_var 0) (de_var 1)))))
    dss_nil) dss_nil)
    (dss_cons (ds_if (DW.db (dw_and (db_val (de_isiT (T := "list") (n := "list") rfl (T.of "isinstance") (T.of "list") (by decide +kernel) isLst_ok (de_var 1))) (dw_and1 (db_not (db_val (de_isiT (T := "list") (n := "list") rfl (T.of "isinstance") (T.of "list") (by decide +kernel) isLst_ok (de_var 0))))))) (dss_cons (ds_ret de_bl)
    dss_nil) dss_nil)
    (dss_cons (ds_if (DW.db (dw_and (db_val (de_isiT (T := "tuple") (n := "tuple") rfl (T.of "isinstance") (T.of "tuple") (by decide +kernel) isTup_ok (de_var 1))) (dw_and1 (db_not (db_val (de_isiT (T := "tuple") (n := "tuple") rfl (T.of "isinstance") (T.of "tuple") (by decide +kernel) isTup_ok (de_var 0))))))) (dss_cons (ds_ret de_bl)
    dss_nil) dss_nil)
    (dss_cons (ds_if (db_ne hu rfl (de_len rfl (T.of "len") (da_cons (de_var 0) da_nil)) (de_len rfl (T.of "len") (da_cons (de_var 1) da_nil))) (dss_cons (ds_ret de_bl)
    dss_nil) dss_nil)
    (dss_cons (ds_for (passes_of rfl) rfl (di_range1 (T.of "range") (da_cons (de_len rfl (T.of "len") (da_cons (de_var 1) da_nil)) da_nil)) (dg_name 2 sc.nd) (dss_cons (ds_if (db_not (db_val (de_call F_law_same (hr.mono (Nat.le_refl _)) rfl tk (da_cons (de_ix rfl (de_var 0) (de_var 2)) (da_cons (de_ix rfl (de_var 1) (de_var 2)) da_nil))))) (dss_cons (ds_ret de_bl)
    dss_nil) dss_nil)
    dss_nil))
    (dss_cons (ds_ret de_bl)
    dss_nil)))))))))), sat_law_same n⟩)
theorem ok_law_is_table {P : Program} {w : World} {K : PySem.W.Frag} {mg : Str → Option Value} {base : Heap} {f : Addr} {fd : FuncData}  (F : FunD K "_law_is_table" "_law_is_table" (defArgs s_law_is_table) (defBody s_law_is_table) (defScope s_law_is_table) [] [] f fd) (hm : mg "_law_is_table" = some (.ref f)) (T : Bt mg free) (Y : ErF K mg errs) (G_Table_width : FDg P w K mg base 1 "Table" "width" W_Table_width) (F_law_same : FD P w K mg base 6 "_law_same" 2 (W_law_same 6)) (G_Table_bits : FDg P w K mg base 1 "Table" "bits" W_Table_bits) (O_Table : OwnK K mg "Table") (hIK : InsK K okI) :
    FD P w K mg base 7 "_law_is_table" 3 W_law_is_table := by
  have sc : FnScope ["_law_given", "_law_wide_here", "_law_due_here"] ["_law_given", "_law_wide_here", "_law_due_here"] (defScope s_law_is_table) := ⟨rfl, rfl, rfl, by decide +kernel, rfl, by decide +kernel, by decide +kernel⟩
  exact fd_ok mono_law_is_table F sc hm len_law_is_table (fun _ _ _ _ _ _ us hl => match us, hl with | [_, _, _], _ => rfl) (fun cdv A outer s H E so B hr tk => ⟨p_law_is_table, (have hu := hr.units; (dss_cons (ds_if (db_not (db_val (de_isiC (T := "Table") rfl (T.of "isinstance") O_Table.mg (hIK.cls O_Table rfl) (de_var 0)))) (dss_cons (ds_ret de_bl)
    dss_nil) dss_nil)
    (dss_cons (ds_ret (de_and (de_call F_law_same (hr.mono (by decide)) rfl tk (da_cons (de_prop G_Table_width (hr.mono (by decide)) rfl (de_var 0)) (da_cons (de_var 1) da_nil))) (de_one (de_call F_law_same (hr.mono (by decide)) rfl tk (da_cons (de_prop G_Table_bits (hr.mono (by decide)) rfl (de_var 0)) (da_cons (de_tuple rfl (T.of "tuple") (da_cons (de_var 2) da_nil)) da_nil))))))
    dss_nil))), sat_law_is_table⟩)
theorem ok_law_size {P : Program} {w : World} {K : PySem.W.Frag} {mg : Str → Option Value} {base : Heap} {f : Addr} {fd : FuncData}  (F : FunD K "_law_size" "_law_size" (defArgs s_law_size) (defBody s_law_size) (defScope s_law_size) [] [] f fd) (hm : mg "_law_size" = some (.ref f)) (T : Bt mg free) (Y : ErF K mg errs)  :
    FD P w K mg base 1 "_law_size" 1 W_law_size := by
  have sc : FnScope ["_law_mask", "_law_many", "_law_k"] ["_law_mask"] (defScope s_law_size) := ⟨rfl, rfl, rfl, by decide +kernel, rfl, by decide +kernel, by decide +kernel⟩
  exact fd_ok mono_law_size F sc hm len_law_size (fun _ _ _ _ _ _ us hl => match us, hl with | [_], _ => rfl) (fun cdv A outer s H E so B hr tk => ⟨p_law_size, (have hu := hr.units; (dss_cons (ds_set 1 sc.nd de_int)
    (dss_cons (ds_for (passes_of rfl) rfl (di_range1 (T.of "range") (da_cons de_int da_nil)) (dg_name 2 sc.nd) (dss_cons (ds_set 1 sc.nd (de_addA (de_var 1) (de_and2 (de_shr (de_var 0) (de_var 2)) de_int)))
    (dss_cons (ds_if (db_lt (de_shr (de_var 0) (de_var 2)) de_int) (dss_cons ds_break
    dss_nil) dss_nil)
    dss_nil)))
    (dss_cons (ds_ret (de_var 1))
    dss_nil)))), sat_law_size⟩)
theorem ok_law_parity {P : Program} {w : World} {K : PySem.W.Frag} {mg : Str → Option Value} {base : Heap} {f : Addr} {fd : FuncData}  (F : FunD K "_law_parity" "_law_parity" (defArgs s_law_parity) (defBody s_law_parity) (defScope s_law_parity) [] [] f fd) (hm : mg "_law_parity" = some (.ref f)) (T : Bt mg free) (Y : ErF K mg errs) (F_law_size : FD P w K mg base 1 "_law_size" 1 W_law_size) :
    FD P w K mg base 2 "_law_parity" 2 W_law_parity := by
  have sc : FnScope ["_law_mask", "_law_here_here"] ["_law_mask", "_law_here_here"] (defScope s_law_parity) := ⟨rfl, rfl, rfl, by decide +kernel, rfl, by decide +kernel, by decide +kernel⟩
  exact fd_ok mono_law_parity F sc hm len_law_parity (fun _ _ _ _ _ _ us hl => match us, hl with | [_, _], _ => rfl) (fun cdv A outer s H E so B hr tk => ⟨p_law_parity, (have hu := hr.units; (dss_cons (ds_ret (de_mod (de_intOf (T.of "int") (da_cons (de_call F_law_size (hr.mono (by decide)) rfl tk (da_cons (de_and2 (de_var 0) (de_var 1)) da_nil)) da_nil)) de_int))
    dss_nil)), sat_law_parity⟩)
theorem ok_law_width {P : Program} {w : World} {K : PySem.W.Frag} {mg : Str → Option Value} {base : Heap} {f : Addr} {fd : FuncData}  (F : FunD K "_law_width" "_law_width" (defArgs s_law_width) (defBody s_law_width) (defScope s_law_width) [] [] f fd) (hm : mg "_law_width" = some (.ref f)) (T : Bt mg free) (Y : ErF K mg errs) (F_law_take : FD P w K mg base 3 "_law_take" 2 W_law_take) :
    FD P w K mg base 4 "_law_width" 3 W_law_width := by
  have sc : FnScope ["_law_store_here", "_law_least", "_law_most", "_law_wide_here"] ["_law_store_here", "_law_least", "_law_most"] (defScope s_law_width) := ⟨rfl, rfl, rfl, by decide +kernel, rfl, by decide +kernel, by decide +kernel⟩
  exact fd_ok mono_law_width F sc hm len_law_width (fun _ _ _ _ _ _ us hl => match us, hl with | [_, _, _], _ => rfl) (fun cdv A outer s H E so B hr tk => ⟨p_law_width, (have hu := hr.units; (dss_cons (ds_set 3 sc.nd (de_ix rfl (de_lst (da_cons de_int (da_cons de_int (da_cons de_int (da_cons de_int (da_cons de_int (da_cons de_int (da_cons de_int (da_cons de_int (da_cons de_int (da_cons de_int (da_cons de_int (da_cons de_int (da_cons de_int (da_cons de_int (da_cons de_int (da_cons de_int da_nil))))))))))))))))) (de_call F_law_take (hr.mono (by decide)) rfl tk (da_cons (de_var 0) (da_cons de_int da_nil)))))
    (dss_cons (ds_ret (de_max rfl (T.of "max") (da_cons (de_var 1) (da_cons (de_min rfl (T.of "min") (da_cons (de_var 2) (da_cons (de_var 3) da_nil))) da_nil))))
    dss_nil))), sat_law_width⟩)
theorem ok_law_word {P : Program} {w : World} {K : PySem.W.Frag} {mg : Str → Option Value} {base : Heap} {f : Addr} {fd : FuncData}  (F : FunD K "_law_word" "_law_word" (defArgs s_law_word) (defBody s_law_word) (defScope s_law_word) [] [] f fd) (hm : mg "_law_word" = some (.ref f)) (T : Bt mg free) (Y : ErF K mg errs) (F_law_take : FD P w K mg base 3 "_law_take" 2 W_law_take) :
    FD P w K mg base 4 "_law_word" 2 W_law_word := by
  have sc : FnScope ["_law_store_here", "_law_wide_here", "_law_full", "_law_kind", "_law_one"] ["_law_store_here", "_law_wide_here"] (defScope s_law_word) := ⟨rfl, rfl, rfl, by decide +kernel, rfl, by decide +kernel, by decide +kernel⟩
  exact fd_ok mono_law_word F sc hm len_law_word (fun _ _ _ _ _ _ us hl => match us, hl with | [_, _], _ => rfl) (fun cdv A outer s H E so B hr tk => ⟨p_law_word, (have hu := hr.units; (dss_cons (ds_set 2 sc.nd (de_sub (de_shl de_int (de_var 1)) de_int))
    (dss_cons (ds_set 3 sc.nd (de_call F_law_take (hr.mono (by decide)) rfl tk (da_cons (de_var 0) (da_cons de_int da_nil))))
    (dss_cons (ds_if (db_lt (de_var 3) de_int) (dss_cons (ds_ret (de_ix rfl (de_lst (da_cons de_int (da_cons (de_var 2) da_nil))) (de_var 3)))
    dss_nil) dss_nil)
    (dss_cons (ds_if (DW.db (dw_and (db_lt (de_var 3) de_int) (dw_and1 (db_gt (de_var 1) de_int)))) (dss_cons (ds_set 4 sc.nd (de_shl de_int (de_call F_law_take (hr.mono (by decide)) rfl tk (da_cons (de_var 0) (da_cons (de_var 1) da_nil)))))
    (dss_cons (ds_ret (de_ix rfl (de_lst (da_cons (de_var 4) (da_cons (de_sub (de_var 2) (de_var 4)) da_nil))) (de_sub (de_var 3) de_int)))
    dss_nil)) dss_nil)
    (dss_cons (ds_ret (de_call F_law_take (hr.mono (by decide)) rfl tk (da_cons (de_var 0) (da_cons (de_addA (de_var 2) de_int) da_nil))))
    dss_nil)))))), sat_law_word⟩)
theorem ok_law_bits_of {P : Program} {w : World} {K : PySem.W.Frag} {mg : Str → Option Value} {base : Heap} {f : Addr} {fd : FuncData}  (F : FunD K "_law_bits_of" "_law_bits_of" (defArgs s_law_bits_of) (defBody s_law_bits_of) (defScope s_law_bits_of) [] [] f fd) (hm : mg "_law_bits_of" = some (.ref f)) (T : Bt mg free) (Y : ErF K mg errs) (F_law_parity : FD P w K mg base 2 "_law_parity" 2 W_law_parity) (F_law_take : FD P w K mg base 3 "_law_take" 2 W_law_take) (F_law_size : FD P w K mg base 1 "_law_size" 1 W_law_size) (F_law_bits_up : FD P w K mg base 4 "_law_bits_up" 2 W_law_bits_up) :
    FD P w K mg base 5 "_law_bits_of" 3 W_law_bits_of := by
  have sc : FnScope ["_law_store_here", "_law_wide_here", "_law_kind", "_law_size_here", "_law_mask", "_law_tilt", "_law_row", "_law_k", "_law_at", "_law_rule", "_law_heavy_row", "_law_least", "_law_one", "_law_two", "_law_x"] ["_law_store_here", "_law_wide_here", "_law_kind"] (defScope s_law_bits_of) := ⟨rfl, rfl, rfl, by decide +kernel, rfl, by decide +kernel, by decide +kernel⟩
  exact fd_ok mono_law_bits_of F sc hm len_law_bits_of (fun _ _ _ _ _ _ us hl => match us, hl with | [_, _, _], _ => rfl) (fun cdv A outer s H E so B hr tk => ⟨p_law_bits_of, (have hu := hr.units; (dss_cons (ds_set 3 sc.nd (de_shl de_int (de_var 1)))
    (dss_cons (ds_if (db_eq hu rfl (de_var 2) de_int) (dss_cons (ds_ret (de_call F_law_bits_up (hr.mono (by decide)) rfl tk (da_cons (de_var 0) (da_cons (de_var 1) da_nil))))
    dss_nil) dss_nil)
    (dss_cons (ds_set 4 sc.nd (de_call F_law_take (hr.mono (by decide)) rfl tk (da_cons (de_var 0) (da_cons (de_var 3) da_nil))))
    (dss_cons (ds_set 5 sc.nd (de_call F_law_take (hr.mono (by decide)) rfl tk (da_cons (de_var 0) (da_cons de_int da_nil))))
    (dss_cons (ds_if (db_eq hu rfl (de_var 2) de_int) (dss_cons (ds_ret (de_lcA 14 rfl sc.nd (di_range1 (T.of "range") (da_cons (de_var 3) da_nil)) (blkOk_of rfl) (fun _ _ _ _ _ => pg_name sc.nd rfl (by first | exact .inl rfl | exact .inr rfl)) (fun _ _ _ _ _ => (de_var 5))))
    dss_nil) dss_nil)
    (dss_cons (ds_if (db_eq hu rfl (de_var 2) de_int) (dss_cons (ds_ret (de_lcA 14 rfl sc.nd (di_range1 (T.of "range") (da_cons (de_var 3) da_nil)) (blkOk_of rfl) (fun _ _ _ _ _ => pg_name sc.nd rfl (by first | exact .inl rfl | exact .inr rfl)) (fun _ _ _ _ _ => (de_xor2 (de_call F_law_parity (hr.mono (by decide)) rfl takes_no (da_cons (de_var 4) (da_cons (de_var 14) da_nil))) (de_var 5)))))
    dss_nil) dss_nil)
    (dss_cons (ds_if (db_eq hu rfl (de_var 2) de_int) (dss_cons (ds_setLcA 6 14 rfl sc.nd (di_range1 (T.of "range") (da_cons (de_var 3) da_nil)) (blkOk_of rfl) (fun _ _ _ _ _ => pg_name sc.nd rfl (by first | exact .inl rfl | exact .inr rfl)) (fun _ _ _ _ _ => (de_call F_law_parity (hr.mono (by decide)) rfl takes_no (da_cons (de_var 4) (da_cons (de_var 14) da_nil)))))
    (dss_cons (ds_for (passes_of rfl) rfl (di_range1 (T.of "range") (da_cons (de_addA de_int (de_call F_law_take (hr.mono (by decide)) rfl tk (da_cons (de_var 0) (da_cons (de_addA (de_fdiv (de_var 3) de_int) de_int) da_nil)))) da_nil)) (dg_name 7 sc.nd) (dss_cons (ds_set 8 sc.nd (de_call F_law_take (hr.mono (by decide)) rfl tk (da_cons (de_var 0) (da_cons (de_var 3) da_nil))))
    (dss_cons (ds_setix 6 rfl (de_sub de_int (de_ixO 6 rfl (de_var 8))) (de_var 8))
    dss_nil)))
    (dss_cons (ds_ret (de_var 6))
    dss_nil))) dss_nil)
    (dss_cons (ds_if (db_eq hu rfl (de_var 2) de_int) (dss_cons (ds_ret (de_lcA 14 rfl sc.nd (di_range1 (T.of "range") (da_cons (de_var 3) da_nil)) (blkOk_of rfl) (fun _ _ _ _ _ => pg_name sc.nd rfl (by first | exact .inl rfl | exact .inr rfl)) (fun _ _ _ _ _ => (de_xor2 (de_intOf (T.of "int") (da_cons (de_eq hu rfl (de_and2 (de_var 14) (de_var 4)) (de_var 4)) da_nil)) (de_var 5)))))
    dss_nil) dss_nil)
    (dss_cons (ds_if (db_eq hu rfl (de_var 2) de_int) (dss_cons (ds_set 9 sc.nd (de_call F_law_take (hr.mono (by decide)) rfl tk (da_cons (de_var 0) (da_cons (de_mul de_int (de_var 3)) da_nil))))
    (dss_cons (ds_ret (de_lcA 14 rfl sc.nd (di_range1 (T.of "range") (da_cons (de_var 3) da_nil)) (blkOk_of rfl) (fun _ _ _ _ _ => pg_name sc.nd rfl (by first | exact .inl rfl | exact .inr rfl)) (fun _ _ _ _ _ => (de_and2 (de_shr (de_var 9) (de_call F_law_size (hr.mono (by decide)) rfl takes_no (da_cons (de_var 14) da_nil))) de_int))))
    dss_nil)) dss_nil)
    (dss_cons (ds_if (db_eq hu rfl (de_var 2) de_int) (dss_cons (ds_set 10 sc.nd (de_lcA 7 rfl sc.nd (di_range1 (T.of "range") (da_cons (de_var 1) da_nil)) (blkOk_of rfl) (fun _ _ _ _ _ => pg_name sc.nd rfl (by first | exact .inl rfl | exact .inr rfl)) (fun _ _ _ _ _ => (de_sub (de_call F_law_take (hr.mono (by decide)) rfl takes_no (da_cons (de_var 0) (da_cons de_int da_nil))) de_int))))
    (dss_cons (ds_set 11 sc.nd (de_sub (de_call F_law_take (hr.mono (by decide)) rfl tk (da_cons (de_var 0) (da_cons de_int da_nil))) de_int))
    (dss_cons (ds_ret (de_lcA 14 rfl sc.nd (di_range1 (T.of "range") (da_cons (de_var 3) da_nil)) (blkOk_of rfl) (fun _ _ _ _ _ => pg_name sc.nd rfl (by first | exact .inl rfl | exact .inr rfl)) (fun _ _ _ _ _ => (de_intOf (T.of "int") (da_cons (de_gt (de_sum rfl rfl (T.of "sum") (da_cons (de_lcA 7 rfl sc.nd (di_range1 (T.of "range") (da_cons (de_var 1) da_nil)) (blkOk_of rfl) (fun _ _ _ _ _ => pg_name sc.nd rfl (by first | exact .inl rfl | exact .inr rfl)) (fun _ _ _ _ _ => (de_mul (de_ix rfl (de_var 10) (de_var 7)) (de_and2 (de_shr (de_var 14) (de_var 7)) de_int)))) da_nil)) (de_var 11)) da_nil)))))
    dss_nil))) dss_nil)
    (dss_cons (ds_if (db_eq hu rfl (de_var 2) de_int) (dss_cons (ds_set 12 sc.nd (de_call F_law_take (hr.mono (by decide)) rfl tk (da_cons (de_var 0) (da_cons (de_max rfl (T.of "max") (da_cons de_int (da_cons (de_var 1) da_nil))) da_nil))))
    (dss_cons (ds_set 13 sc.nd (de_call F_law_take (hr.mono (by decide)) rfl tk (da_cons (de_var 0) (da_cons (de_max rfl (T.of "max") (da_cons de_int (da_cons (de_var 1) da_nil))) da_nil))))
    (dss_cons (ds_set 9 sc.nd (de_call F_law_take (hr.mono (by decide)) rfl tk (da_cons (de_var 0) (da_cons de_int da_nil))))
    (dss_cons (ds_ret (de_lcA 14 rfl sc.nd (di_range1 (T.of "range") (da_cons (de_var 3) da_nil)) (blkOk_of rfl) (fun _ _ _ _ _ => pg_name sc.nd rfl (by first | exact .inl rfl | exact .inr rfl)) (fun _ _ _ _ _ => (de_and2 (de_shr (de_var 9) (de_addA (de_and2 (de_shr (de_var 14) (de_var 12)) de_int) (de_mul de_int (de_and2 (de_shr (de_var 14) (de_var 13)) de_int)))) de_int))))
    dss_nil)))) dss_nil)
    (dss_cons (ds_if (db_eq hu rfl (de_var 2) de_int) (dss_cons (ds_ret (de_lcA 14 rfl sc.nd (di_range1 (T.of "range") (da_cons (de_var 3) da_nil)) (blkOk_of rfl) (fun _ _ _ _ _ => pg_name sc.nd rfl (by first | exact .inl rfl | exact .inr rfl)) (fun _ _ _ _ _ => (de_xor2 (de_xor2 (de_call F_law_parity (hr.mono (by decide)) rfl takes_no (da_cons de_int (da_cons (de_and2 (de_var 14) (de_shr (de_var 14) de_int)) da_nil))) (de_call F_law_parity (hr.mono (by decide)) rfl takes_no (da_cons (de_var 4) (da_cons (de_var 14) da_nil)))) (de_var 5)))))
    dss_nil) dss_nil)
    (dss_cons (ds_ret (de_lcA 14 rfl sc.nd (di_range1 (T.of "range") (da_cons (de_var 3) da_nil)) (blkOk_of rfl) (fun _ _ _ _ _ => pg_name sc.nd rfl (by first | exact .inl rfl | exact .inr rfl)) (fun _ _ _ _ _ => (de_intOf (T.of "int") (da_cons (de_lt (de_var 14) (de_addA (de_var 4) (de_var 5))) da_nil)))))
    dss_nil)))))))))))))), sat_law_bits_of⟩)
theorem ok_law_bits_up {P : Program} {w : World} {K : PySem.W.Frag} {mg : Str → Option Value} {base : Heap} {f : Addr} {fd : FuncData}  (F : FunD K "_law_bits_up" "_law_bits_up" (defArgs s_law_bits_up) (defBody s_law_bits_up) (defScope s_law_bits_up) [] [] f fd) (hm : mg "_law_bits_up" = some (.ref f)) (T : Bt mg free) (Y : ErF K mg errs) (F_law_take : FD P w K mg base 3 "_law_take" 2 W_law_take) :
    FD P w K mg base 4 "_law_bits_up" 2 W_law_bits_up := by
  have sc : FnScope ["_law_store_here", "_law_wide_here", "_law_held", "_law_row", "_law_mask", "_law_k", "_law_x"] ["_law_store_here", "_law_wide_here"] (defScope s_law_bits_up) := ⟨rfl, rfl, rfl, by decide +kernel, rfl, by decide +kernel, by decide +kernel⟩
  exact fd_ok mono_law_bits_up F sc hm len_law_bits_up (fun _ _ _ _ _ _ us hl => match us, hl with | [_, _], _ => rfl) (fun cdv A outer s H E so B hr tk => ⟨p_law_bits_up, (have hu := hr.units; (dss_cons (ds_setLcA 2 5 rfl sc.nd (di_range1 (T.of "range") (da_cons (de_call F_law_take (hr.mono (by decide)) rfl tk (da_cons (de_var 0) (da_cons de_int da_nil))) da_nil)) (blkOk_of rfl) (fun _ _ _ _ _ => pg_name sc.nd rfl (by first | exact .inl rfl | exact .inr rfl)) (fun _ _ _ _ _ => (de_call F_law_take (hr.mono (by decide)) rfl takes_no (da_cons (de_var 0) (da_cons (de_shl de_int (de_var 1)) da_nil)))))
    (dss_cons (ds_set 3 sc.nd (de_lcA 6 rfl sc.nd (di_range1 (T.of "range") (da_cons (de_shl de_int (de_var 1)) da_nil)) (blkOk_of rfl) (fun _ _ _ _ _ => pg_name sc.nd rfl (by first | exact .inl rfl | exact .inr rfl)) (fun _ _ _ _ _ => de_int)))
    (dss_cons (ds_for (passes_of rfl) rfl (di_list rfl (de_var 2)) (dg_name 4 sc.nd) (dss_cons (ds_set 3 sc.nd (de_lcA 6 rfl sc.nd (di_range1 (T.of "range") (da_cons (de_len rfl (T.of "len") (da_cons (de_var 3) da_nil)) da_nil)) (blkOk_of rfl) (fun _ _ _ _ _ => pg_name sc.nd rfl (by first | exact .inl rfl | exact .inr rfl)) (fun _ _ _ _ _ => (de_max rfl (T.of "max") (da_cons (de_ix rfl (de_var 3) (de_var 6)) (da_cons (de_intOf (T.of "int") (da_cons (de_eq hu rfl (de_and2 (de_var 6) (de_var 4)) (de_var 4)) da_nil)) da_nil))))))
    dss_nil))
    (dss_cons (ds_ret (de_var 3))
    dss_nil))))), sat_law_bits_up⟩)
theorem ok_law_bits {P : Program} {w : World} {K : PySem.W.Frag} {mg : Str → Option Value} {base : Heap} {f : Addr} {fd : FuncData}  (F : FunD K "_law_bits" "_law_bits" (defArgs s_law_bits) (defBody s_law_bits) (defScope s_law_bits) [] [] f fd) (hm : mg "_law_bits" = some (.ref f)) (T : Bt mg free) (Y : ErF K mg errs) (F_law_take : FD P w K mg base 3 "_law_take" 2 W_law_take) (F_law_bits_of : FD P w K mg base 5 "_law_bits_of" 3 W_law_bits_of) :
    FD P w K mg base 6 "_law_bits" 2 W_law_bits := by
  have sc : FnScope ["_law_store_here", "_law_wide_here", "_law_kind", "_law_told_here", "_law_x"] ["_law_store_here", "_law_wide_here"] (defScope s_law_bits) := ⟨rfl, rfl, rfl, by decide +kernel, rfl, by decide +kernel, by decide +kernel⟩
  exact fd_ok mono_law_bits F sc hm len_law_bits (fun _ _ _ _ _ _ us hl => match us, hl with | [_, _], _ => rfl) (fun cdv A outer s H E so B hr tk => ⟨p_law_bits, (have hu := hr.units; (dss_cons (ds_set 2 sc.nd (de_call F_law_take (hr.mono (by decide)) rfl tk (da_cons (de_var 0) (da_cons de_int da_nil))))
    (dss_cons (ds_if (db_lt (de_var 2) de_int) (dss_cons (ds_ret (de_call F_law_bits_of (hr.mono (by decide)) rfl tk (da_cons (de_var 0) (da_cons (de_var 1) (da_cons (de_var 2) da_nil)))))
    dss_nil) dss_nil)
    (dss_cons (ds_set 3 sc.nd (de_call F_law_take (hr.mono (by decide)) rfl tk (da_cons (de_var 0) (da_cons (de_shl de_int (de_shl de_int (de_var 1))) da_nil))))
    (dss_cons (ds_ret (de_lcA 4 rfl sc.nd (di_range1 (T.of "range") (da_cons (de_shl de_int (de_var 1)) da_nil)) (blkOk_of rfl) (fun _ _ _ _ _ => pg_name sc.nd rfl (by first | exact .inl rfl | exact .inr rfl)) (fun _ _ _ _ _ => (de_and2 (de_shr (de_var 3) (de_var 4)) de_int))))
    dss_nil))))), sat_law_bits⟩)
theorem ok_law_pick {P : Program} {w : World} {K : PySem.W.Frag} {mg : Str → Option Value} {base : Heap} {f : Addr} {fd : FuncData}  (F : FunD K "_law_pick" "_law_pick" (defArgs s_law_pick) (defBody s_law_pick) (defScope s_law_pick) [] [] f fd) (hm : mg "_law_pick" = some (.ref f)) (T : Bt mg free) (Y : ErF K mg errs) (F_law_take : FD P w K mg base 3 "_law_take" 2 W_law_take) :
    FD P w K mg base 4 "_law_pick" 2 W_law_pick := by
  have sc : FnScope ["_law_store_here", "_law_row"] ["_law_store_here", "_law_row"] (defScope s_law_pick) := ⟨rfl, rfl, rfl, by decide +kernel, rfl, by decide +kernel, by decide +kernel⟩
  exact fd_ok mono_law_pick F sc hm len_law_pick (fun _ _ _ _ _ _ us hl => match us, hl with | [_, _], _ => rfl) (fun cdv A outer s H E so B hr tk => ⟨p_law_pick, (have hu := hr.units; (dss_cons (ds_ret (de_ix rfl (de_var 1) (de_call F_law_take (hr.mono (by decide)) rfl tk (da_cons (de_var 0) (da_cons (de_len rfl (T.of "len") (da_cons (de_var 1) da_nil)) da_nil)))))
    dss_nil)), sat_law_pick⟩)
theorem ok_law_number_fault_iv {P : Program} {w : World} {K : PySem.W.Frag} {mg : Str → Option Value} {base : Heap} {f : Addr} {fd : FuncData}  (F : FunD K "_law_number_fault" "_law_number_fault" (defArgs s_law_number_fault) (defBody s_law_number_fault) (defScope s_law_number_fault) [] [] f fd) (hm : mg "_law_number_fault" = some (.ref f)) (T : Bt mg free) (Y : ErF K mg errs) (hIK : InsK K okI) :
    FD P w K mg base 1 "_law_number_fault" 3 W_law_number_fault_iv := by
  have sc : FnScope ["_law_given", "_law_low", "_law_high"] ["_law_given", "_law_low", "_law_high"] (defScope s_law_number_fault) := ⟨rfl, rfl, rfl, by decide +kernel, rfl, by decide +kernel, by decide +kernel⟩
  exact fd_ok mono_law_number_fault_iv F sc hm len_law_number_fault_iv (fun _ _ _ _ _ _ us hl => match us, hl with | [_, _, _], _ => rfl) (fun cdv A outer s H E so B hr tk => ⟨p_law_number_fault_iv, (have hu := hr.units; (dss_cons (ds_if (DW.db (dw_or (db_not (db_val (de_isiT (T := "int") (n := "int") rfl (T.of "isinstance") (T.of "int") (by decide +kernel) hIK.int (de_var 0)))) (dw_or1 (db_val (de_isiT (T := "bool") (n := "bool") rfl (T.of "isinstance") (T.of "bool") (by decide +kernel) hIK.bool (de_var 0)))))) (dss_cons (ds_ret de_str)
    dss_nil) dss_nil)
    (dss_cons (ds_if (DW.db (dw_or (DW.db (dw_and (db_notN (de_var 1) de_non) (dw_and1 (db_lt (de_var 0) (de_var 1))))) (dw_or1 (DW.db (dw_and (db_notN (de_var 2) de_non) (dw_and1 (db_gt (de_var 0) (de_var 2)))))))) (dss_cons (ds_ret de_str)
    dss_nil) dss_nil)
    (dss_cons (ds_ret de_str)
    dss_nil)))), sat_law_number_fault_iv⟩)
theorem ok_law_first_fault {P : Program} {w : World} {K : PySem.W.Frag} {mg : Str → Option Value} {base : Heap} {f : Addr} {fd : FuncData}  (F : FunD K "_law_first_fault" "_law_first_fault" (defArgs s_law_first_fault) (defBody s_law_first_fault) (defScope s_law_first_fault) [] [] f fd) (hm : mg "_law_first_fault" = some (.ref f)) (T : Bt mg free) (Y : ErF K mg errs)  :
    FD P w K mg base 1 "_law_first_fault" 1 W_law_first_fault := by
  have sc : FnScope ["_law_pair_row", "_law_item"] ["_law_pair_row"] (defScope s_law_first_fault) := ⟨rfl, rfl, rfl, by decide +kernel, rfl, by decide +kernel, by decide +kernel⟩
  exact fd_ok mono_law_first_fault F sc hm len_law_first_fault (fun _ _ _ _ _ _ us hl => match us, hl with | [_], _ => rfl) (fun cdv A outer s H E so B hr tk => ⟨p_law_first_fault, (have hu := hr.units; (dss_cons (ds_for (passes_of rfl) rfl (di_list rfl (de_var 0)) (dg_name 1 sc.nd) (dss_cons (ds_if (db_ne hu rfl (de_ix rfl (de_var 1) de_int) de_str) (dss_cons (ds_ret (de_tup (da_cons (de_ix rfl (de_var 1) de_int) (da_cons (de_ix rfl (de_var 1) de_int) da_nil))))
    dss_nil) dss_nil)
    dss_nil))
    (dss_cons (ds_ret de_non)
    dss_nil))), sat_law_first_fault⟩)
theorem ok_law_odd_number_iv {P : Program} {w : World} {K : PySem.W.Frag} {mg : Str → Option Value} {base : Heap} {f : Addr} {fd : FuncData}  (F : FunD K "_law_odd_number" "_law_odd_number" (defArgs s_law_odd_number) (defBody s_law_odd_number) (defScope s_law_odd_number) [] [] f fd) (hm : mg "_law_odd_number" = some (.ref f)) (T : Bt mg free) (Y : ErF K mg errs) (I_Table_init : FDi P w K mg base 6 "Table" 2 W_Table_init) (F_law_take : FD P w K mg base 3 "_law_take" 2 W_law_take) :
    FD P w K mg base 8 "_law_odd_number" 3 W_law_odd_number_iv := by
  have sc : FnScope ["_law_store_here", "_law_low", "_law_high", "_law_least", "_law_most", "_law_kind"] ["_law_store_here", "_law_low", "_law_high"] (defScope s_law_odd_number) := ⟨rfl, rfl, rfl, by decide +kernel, rfl, by decide +kernel, by decide +kernel⟩
  exact fd_ok mono_law_odd_number_iv F sc hm len_law_odd_number_iv (fun _ _ _ _ _ _ us hl => match us, hl with | [_, _, _], _ => rfl) (fun cdv A outer s H E so B hr tk => ⟨p_law_odd_number_iv, (have hu := hr.units; (dss_cons (ds_set 3 sc.nd de_int)
    (dss_cons (ds_if (db_notN (de_var 1) de_non) (dss_cons (ds_set 3 sc.nd (de_var 1))
    dss_nil) dss_nil)
    (dss_cons (ds_set 4 sc.nd (de_var 3))
    (dss_cons (ds_if (db_notN (de_var 2) de_non) (dss_cons (ds_set 4 sc.nd (de_var 2))
    dss_nil) dss_nil)
    (dss_cons (ds_set 5 sc.nd (de_call F_law_take (hr.mono (by decide)) rfl tk (da_cons (de_var 0) (da_cons de_int da_nil))))
    (dss_cons (ds_if (db_lt (de_var 5) de_int) (dss_cons (ds_ret (de_ix rfl (de_lst (da_cons de_non (da_cons de_bl (da_cons de_bl (da_cons de_str (da_cons de_str (da_cons (de_lst (da_cons de_int da_nil)) (da_cons (de_tup (da_cons de_int da_nil)) (da_cons de_dnew (da_cons (de_make I_Table_init (hr.mono (by decide)) rfl tk (fun _ _ => rfl) (da_cons de_int (da_cons (de_lst (da_cons de_int da_nil)) da_nil))) da_nil)))))))))) (de_var 5)))
    dss_nil) dss_nil)
    (dss_cons (ds_ret (de_ix rfl (de_lst (da_cons (de_sub (de_var 3) de_int) (da_cons (de_addA (de_var 4) de_int) (da_cons (de_sub (de_var 3) (de_pow de_int de_int)) (da_cons (de_addA (de_var 4) (de_pow de_int de_int)) (da_cons (de_var 3) (da_cons (de_var 4) da_nil))))))) (de_sub (de_var 5) de_int)))
    dss_nil)))))))), sat_law_odd_number_iv⟩)
theorem ok_law_kinds {P : Program} {w : World} {K : PySem.W.Frag} {mg : Str → Option Value} {base : Heap} {f : Addr} {fd : FuncData}  (pn : Addr × Obj) (F : FunD K "_law_kinds" "_law_kinds" (defArgs s_law_kinds) (defBody s_law_kinds) (defScope s_law_kinds) [] [] f fd) (hm : mg "_law_kinds" = some (.ref f)) (T : Bt mg free) (Y : ErF K mg errs)  :
    FDP P w K mg base 1 "_law_kinds" 1 pn (W_law_kinds pn) := by
  have sc : FnScope ["_law_caught", "_law_found"] ["_law_caught"] (defScope s_law_kinds) := ⟨rfl, rfl, rfl, by decide +kernel, rfl, by decide +kernel, by decide +kernel⟩
  exact fdp_ok (mono_law_kinds pn) F sc hm (len_law_kinds pn) (fun _ _ _ _ _ _ us hl => match us, hl with | [_], _ => rfl) (fun cdv A outer s H E so B hh hr tk => ⟨p_law_kinds pn, (have hpn : pn ∈ [pn] := List.mem_cons_self; have hu := roomH_units hr; (dss_cons (ds_set 1 sc.nd (de_lst da_nil))
    (dss_cons (ds_if (db_val (de_isiC (T := "WrongKind") rfl (T.of "isinstance") (Y.mg "WrongKind" (by decide +kernel)) (Y.is (by decide +kernel)) (de_var 0))) (dss_cons (ds_append 1 rfl de_str)
    dss_nil) dss_nil)
    (dss_cons (ds_if (db_val (de_isiC (T := "WrongSize") rfl (T.of "isinstance") (Y.mg "WrongSize" (by decide +kernel)) (Y.is (by decide +kernel)) (de_var 0))) (dss_cons (ds_append 1 rfl de_str)
    dss_nil) dss_nil)
    (dss_cons (ds_if (db_val (de_isiC (T := "OutOfRange") rfl (T.of "isinstance") (Y.mg "OutOfRange" (by decide +kernel)) (Y.is (by decide +kernel)) (de_var 0))) (dss_cons (ds_append 1 rfl de_str)
    dss_nil) dss_nil)
    (dss_cons (ds_if (db_val (de_isiC (T := "BadText") rfl (T.of "isinstance") (Y.mg "BadText" (by decide +kernel)) (Y.is (by decide +kernel)) (de_var 0))) (dss_cons (ds_append 1 rfl de_str)
    dss_nil) dss_nil)
    (dss_cons (ds_if (db_val (de_isiC (T := "NotATable") rfl (T.of "isinstance") (Y.mg "NotATable" (by decide +kernel)) (Y.is (by decide +kernel)) (de_var 0))) (dss_cons (ds_append 1 rfl de_str)
    dss_nil) dss_nil)
    (dss_cons (ds_if (db_val (de_isiC (T := "Spent") rfl (T.of "isinstance") (Y.mg "Spent" (by decide +kernel)) (Y.is (by decide +kernel)) (de_var 0))) (dss_cons (ds_append 1 rfl de_str)
    dss_nil) dss_nil)
    (dss_cons (ds_if (db_val (de_isiC (T := "TooFewPlaces") rfl (T.of "isinstance") (Y.mg "TooFewPlaces" (by decide +kernel)) (Y.is (by decide +kernel)) (de_var 0))) (dss_cons (ds_append 1 rfl de_str)
    dss_nil) dss_nil)
    (dss_cons (ds_if (db_val (de_isiC (T := "WrongPaper") rfl (T.of "isinstance") (Y.mg "WrongPaper" (by decide +kernel)) (Y.is (by decide +kernel)) (de_var 0))) (dss_cons (ds_append 1 rfl de_str)
    dss_nil) dss_nil)
    (dss_cons (ds_if (db_val (de_isiC (T := "UnknownName") rfl (T.of "isinstance") (Y.mg "UnknownName" (by decide +kernel)) (Y.is (by decide +kernel)) (de_var 0))) (dss_cons (ds_append 1 rfl de_str)
    dss_nil) dss_nil)
    (dss_cons (ds_if (db_val (de_isiC (T := "NameTaken") rfl (T.of "isinstance") (Y.mg "NameTaken" (by decide +kernel)) (Y.is (by decide +kernel)) (de_var 0))) (dss_cons (ds_append 1 rfl de_str)
    dss_nil) dss_nil)
    (dss_cons (ds_if (db_val (de_isiC (T := "NothingToUndo") rfl (T.of "isinstance") (Y.mg "NothingToUndo" (by decide +kernel)) (Y.is (by decide +kernel)) (de_var 0))) (dss_cons (ds_append 1 rfl de_str)
    dss_nil) dss_nil)
    (dss_cons (ds_if (db_val (de_isiC (T := "BookFull") rfl (T.of "isinstance") (Y.mg "BookFull" (by decide +kernel)) (Y.is (by decide +kernel)) (de_var 0))) (dss_cons (ds_append 1 rfl de_str)
    dss_nil) dss_nil)
    (dss_cons (ds_ret (de_var 1))
    dss_nil))))))))))))))), sat_law_kinds pn⟩)
theorem ok_law_refusal {P : Program} {w : World} {K : PySem.W.Frag} {mg : Str → Option Value} {base : Heap} {f : Addr} {fd : FuncData}  (pn : Addr × Obj) (F : FunD K "_law_refusal" "_law_refusal" (defArgs s_law_refusal) (defBody s_law_refusal) (defScope s_law_refusal) [] [] f fd) (hm : mg "_law_refusal" = some (.ref f)) (T : Bt mg free) (Y : ErF K mg errs) (hXf : ∀ c, okX c = true → XfK K c) (P_law_kinds : FDP P w K mg base 1 "_law_kinds" 1 pn (W_law_kinds pn)) :
    FDP P w K mg base 5 "_law_refusal" 1 pn (W_law_refusal pn) := by
  have sc : FnScope ["_law_caught", "_law_found"] ["_law_caught"] (defScope s_law_refusal) := ⟨rfl, rfl, rfl, by decide +kernel, rfl, by decide +kernel, by decide +kernel⟩
  exact fdp_ok (mono_law_refusal pn) F sc hm (len_law_refusal pn) (fun _ _ _ _ _ _ us hl => match us, hl with | [_], _ => rfl) (fun cdv A outer s H E so B hh hr tk => ⟨p_law_refusal pn, (have hpn : pn ∈ [pn] := List.mem_cons_self; have hu := roomH_units hr; (dss_cons (ds_set 1 sc.nd (de_callP P_law_kinds (hr.mono (by decide)) hh hpn rfl tk (da_cons (de_var 0) da_nil)))
    (dss_cons (ds_if (DW.db (dw_or (db_ne hu rfl (de_len rfl (T.of "len") (da_cons (de_var 1) da_nil)) de_int) (dw_or1 (db_not (db_val (de_isiT (T := "ValueError") (n := "ValueError") rfl (T.of "isinstance") (T.of "ValueError") (by decide +kernel) Y.isVE (de_var 0))))))) (dss_cons (ds_ret (de_tup (da_cons de_str (da_cons (de_var 1) da_nil))))
    dss_nil) dss_nil)
    (dss_cons (ds_if (db_in rfl (de_ix rfl (de_var 1) de_int) (de_lst (da_cons de_str (da_cons de_str (da_cons de_str da_nil))))) (dss_cons (ds_ret (de_tup (da_cons (de_ix rfl (de_var 1) de_int) (da_cons (de_xf okX hXf rfl (de_var 0)) da_nil))))
    dss_nil) dss_nil)
    (dss_cons (ds_if (db_eq hu rfl (de_ix rfl (de_var 1) de_int) de_str) (dss_cons (ds_ret (de_tup (da_cons (de_ix rfl (de_var 1) de_int) (da_cons (de_xf okX hXf rfl (de_var 0)) da_nil))))
    dss_nil) dss_nil)
    (dss_cons (ds_if (db_eq hu rfl (de_ix rfl (de_var 1) de_int) de_str) (dss_cons (ds_ret (de_tup (da_cons (de_ix rfl (de_var 1) de_int) (da_cons (de_xf okX hXf rfl (de_var 0)) da_nil))))
    dss_nil) dss_nil)
    (dss_cons (ds_if (db_eq hu rfl (de_ix rfl (de_var 1) de_int) de_str) (dss_cons ds_never
    dss_nil) dss_nil)
    (dss_cons (ds_if (db_eq hu rfl (de_ix rfl (de_var 1) de_int) de_str) (dss_cons (ds_ret (de_tup (da_cons (de_ix rfl (de_var 1) de_int) (da_cons (de_xf okX hXf rfl (de_var 0)) da_nil))))
    dss_nil) dss_nil)
    (dss_cons (ds_if (db_eq hu rfl (de_ix rfl (de_var 1) de_int) de_str) (dss_cons (ds_ret (de_tup (da_cons (de_ix rfl (de_var 1) de_int) (da_cons (de_xf okX hXf rfl (de_var 0)) da_nil))))
    dss_nil) dss_nil)
    (dss_cons (ds_if (db_eq hu rfl (de_ix rfl (de_var 1) de_int) de_str) (dss_cons (ds_ret (de_tup (da_cons (de_ix rfl (de_var 1) de_int) (da_cons (de_xf okX hXf rfl (de_var 0)) da_nil))))
    dss_nil) dss_nil)
    (dss_cons (ds_ret (de_tup (da_cons (de_ix rfl (de_var 1) de_int) (da_cons de_non da_nil))))
    dss_nil))))))))))), sat_law_refusal pn⟩)
theorem ok_law_told {P : Program} {w : World} {K : PySem.W.Frag} {mg : Str → Option Value} {base : Heap} {f : Addr} {fd : FuncData}  (F : FunD K "_law_told" "_law_told" (defArgs s_law_told) (defBody s_law_told) (defScope s_law_told) [] [] f fd) (hm : mg "_law_told" = some (.ref f)) (T : Bt mg free) (Y : ErF K mg errs) (F_law_ask : FD P w K mg base 6 "_law_ask" 2 W_law_ask) (P_law_refusal : ∀ pn, FDP P w K mg base 5 "_law_refusal" 1 pn (W_law_refusal pn)) :
    FD P w K mg base 7 "_law_told" 2 W_law_told := by
  have sc : FnScope ["_law_which", "_law_given", "_law_caught"] ["_law_which", "_law_given"] (defScope s_law_told) := ⟨rfl, rfl, rfl, by decide +kernel, rfl, by decide +kernel, by decide +kernel⟩
  exact fd_ok mono_law_told F sc hm len_law_told (fun _ _ _ _ _ _ us hl => match us, hl with | [_, _], _ => rfl) (fun cdv A outer s H E so B hr tk => ⟨p_law_told, (have hu := hr.units; (dss_cons (ds_try (c := "ShadeError") 2 rfl rfl sc.nd (Y.mg "ShadeError" (by decide +kernel)) Y.ca rfl tk (fun E0 pn0 xe0 tk => (dss_cons (ds_ret (de_tup (da_cons de_str (da_cons (de_call F_law_ask (hr.mono (by decide)) rfl tk (da_cons (de_var 0) (da_cons (de_var 1) da_nil))) da_nil))))
    dss_nil))
    (fun a oe pn0 hcx hfv => (have tk : L2N.Takes (Cx.suite _ a ((a, oe) :: pn0)) (fun _ _ _ _ => False) := takes_no; have hh := hot_of hcx hfv; have hpn : (a, oe) ∈ (a, oe) :: pn0 := List.mem_cons_self; (dss_cons (ds_ret (de_tup (da_cons de_str (da_cons (de_callP (P_law_refusal (a, oe)) (L2H.RoomH.mono (room_mark hr _) (by decide)) hh hpn rfl tk (da_cons (de_var 2) da_nil)) da_nil))))
    dss_nil))))
    dss_nil)), sat_law_told⟩)
theorem ok_law_odd_table {P : Program} {w : World} {K : PySem.W.Frag} {mg : Str → Option Value} {base : Heap} {f : Addr} {fd : FuncData}  (F : FunD K "_law_odd_table" "_law_odd_table" (defArgs s_law_odd_table) (defBody s_law_odd_table) (defScope s_law_odd_table) [] [] f fd) (hm : mg "_law_odd_table" = some (.ref f)) (T : Bt mg free) (Y : ErF K mg errs) (F_law_take : FD P w K mg base 3 "_law_take" 2 W_law_take) (I_Table_init : FDi P w K mg base 6 "Table" 2 W_Table_init) (J_Asked_init : FDj P w K mg base 5 "Asked" 1 W_Asked_init) :
    FD P w K mg base 8 "_law_odd_table" 1 W_law_odd_table := by
  have sc : FnScope ["_law_store_here", "_law_menu"] ["_law_store_here"] (defScope s_law_odd_table) := ⟨rfl, rfl, rfl, by decide +kernel, rfl, by decide +kernel, by decide +kernel⟩
  exact fd_ok mono_law_odd_table F sc hm len_law_odd_table (fun _ _ _ _ _ _ us hl => match us, hl with | [_], _ => rfl) (fun cdv A outer s H E so B hr tk => ⟨p_law_odd_table, (have hu := hr.units; (dss_cons (ds_set 1 sc.nd (de_lst (da_cons de_non (da_cons de_int (da_cons de_bl (da_cons de_str (da_cons (de_lst (da_cons de_int (da_cons de_int da_nil))) (da_cons (de_tup (da_cons de_int (da_cons de_int da_nil))) (da_cons (de_lst da_nil) (da_cons de_str (da_cons de_int (da_cons de_dnew (da_cons (de_makeN J_Asked_init (hr.mono (by decide)) rfl tk (fun _ _ => rfl) (da_cons (de_make I_Table_init (hr.mono (by decide)) rfl tk (fun _ _ => rfl) (da_cons de_int (da_cons (de_lst (da_cons de_int (da_cons de_int da_nil))) da_nil))) da_nil)) da_nil)))))))))))))
    (dss_cons (ds_ret (de_ix rfl (de_var 1) (de_call F_law_take (hr.mono (by decide)) rfl tk (da_cons (de_var 0) (da_cons de_int da_nil)))))
    dss_nil))), sat_law_odd_table⟩)
theorem ok_law_ask {P : Program} {w : World} {K : PySem.W.Frag} {mg : Str → Option Value} {base : Heap} {f : Addr} {fd : FuncData}  (F : FunD K "_law_ask" "_law_ask" (defArgs s_law_ask) (defBody s_law_ask) (defScope s_law_ask) [] [] f fd) (hm : mg "_law_ask" = some (.ref f)) (T : Bt mg free) (Y : ErF K mg errs) (K_margin_table_word : FDK P w K mg base 5 "margin" 2 ["table", "word"] [0, 1] W_margin) (K_votes_at_word_table : FDK P w K mg base 4 "votes_at" 2 ["word", "table"] [1, 0] W_votes_at) (F_margin : FD P w K mg base 5 "margin" 2 W_margin) (F_votes_at : FD P w K mg base 4 "votes_at" 2 W_votes_at) :
    FD P w K mg base 6 "_law_ask" 2 W_law_ask := by
  have sc : FnScope ["_law_which", "_law_given"] ["_law_which", "_law_given"] (defScope s_law_ask) := ⟨rfl, rfl, rfl, by decide +kernel, rfl, by decide +kernel, by decide +kernel⟩
  exact fd_ok mono_law_ask F sc hm len_law_ask (fun _ _ _ _ _ _ us hl => match us, hl with | [_, _], _ => rfl) (fun cdv A outer s H E so B hr tk => ⟨p_law_ask, (have hu := hr.units; (dss_cons (ds_if (db_eq hu rfl (de_var 0) de_int) (dss_cons (ds_ret (de_call F_votes_at (hr.mono (by decide)) rfl tk (da_cons (de_ix rfl (de_var 1) de_int) (da_cons (de_ix rfl (de_var 1) de_int) da_nil))))
    dss_nil) dss_nil)
    (dss_cons (ds_if (db_eq hu rfl (de_var 0) de_int) (dss_cons (ds_ret (de_call F_margin (hr.mono (by decide)) rfl tk (da_cons (de_ix rfl (de_var 1) de_int) (da_cons (de_ix rfl (de_var 1) de_int) da_nil))))
    dss_nil) dss_nil)
    (dss_cons (ds_if (db_eq hu rfl (de_var 0) de_int) (dss_cons (ds_ret (de_callK K_votes_at_word_table (hr.mono (by decide)) rfl tk (dk_cons (de_ix rfl (de_var 1) de_int) (dk_cons (de_ix rfl (de_var 1) de_int) dk_nil)) (fun ds hl => match ds, hl with | [_, _], _ => rfl)))
    dss_nil) dss_nil)
    (dss_cons (ds_ret (de_callK K_margin_table_word (hr.mono (by decide)) rfl tk (dk_cons (de_ix rfl (de_var 1) de_int) (dk_cons (de_ix rfl (de_var 1) de_int) dk_nil)) (fun ds hl => match ds, hl with | [_, _], _ => rfl)))
    dss_nil))))), sat_law_ask⟩)
theorem ok_law_votes {P : Program} {w : World} {K : PySem.W.Frag} {mg : Str → Option Value} {base : Heap} {f : Addr} {fd : FuncData}  (F : FunD K "_law_votes" "_law_votes" (defArgs s_law_votes) (defBody s_law_votes) (defScope s_law_votes) [] [] f fd) (hm : mg "_law_votes" = some (.ref f)) (T : Bt mg free) (Y : ErF K mg errs)  :
    FD P w K mg base 1 "_law_votes" 2 W_law_votes := by
  have sc : FnScope ["_law_mine", "_law_here_here", "_law_zeros", "_law_y"] ["_law_mine", "_law_here_here"] (defScope s_law_votes) := ⟨rfl, rfl, rfl, by decide +kernel, rfl, by decide +kernel, by decide +kernel⟩
  exact fd_ok mono_law_votes F sc hm len_law_votes (fun _ _ _ _ _ _ us hl => match us, hl with | [_, _], _ => rfl) (fun cdv A outer s H E so B hr tk => ⟨p_law_votes, (have hu := hr.units; (dss_cons (ds_set 2 sc.nd de_int)
    (dss_cons (ds_for (passes_of rfl) rfl (di_range1 (T.of "range") (da_cons (de_len rfl (T.of "len") (da_cons (de_var 0) da_nil)) da_nil)) (dg_name 3 sc.nd) (dss_cons (ds_if (db_eq hu rfl (de_ix rfl (de_var 0) (de_var 3)) (de_ix rfl (de_var 0) (de_xor2 (de_var 1) (de_var 3)))) (dss_cons (ds_set 2 sc.nd (de_addA (de_var 2) de_int))
    dss_nil) dss_nil)
    dss_nil))
    (dss_cons (ds_ret (de_tup (da_cons (de_var 2) (da_cons (de_sub (de_len rfl (T.of "len") (da_cons (de_var 0) da_nil)) (de_var 2)) da_nil))))
    dss_nil)))), sat_law_votes⟩)
theorem ok_law_due {P : Program} {w : World} {K : PySem.W.Frag} {mg : Str → Option Value} {base : Heap} {f : Addr} {fd : FuncData}  (F : FunD K "_law_due" "_law_due" (defArgs s_law_due) (defBody s_law_due) (defScope s_law_due) [] [] f fd) (hm : mg "_law_due" = some (.ref f)) (T : Bt mg free) (Y : ErF K mg errs) (F_law_votes : FD P w K mg base 1 "_law_votes" 2 W_law_votes) :
    FD P w K mg base 2 "_law_due" 3 W_law_due := by
  have sc : FnScope ["_law_which", "_law_mine", "_law_here_here", "_law_votes_here"] ["_law_which", "_law_mine", "_law_here_here"] (defScope s_law_due) := ⟨rfl, rfl, rfl, by decide +kernel, rfl, by decide +kernel, by decide +kernel⟩
  exact fd_ok mono_law_due F sc hm len_law_due (fun _ _ _ _ _ _ us hl => match us, hl with | [_, _, _], _ => rfl) (fun cdv A outer s H E so B hr tk => ⟨p_law_due, (have hu := hr.units; (dss_cons (ds_set 3 sc.nd (de_call F_law_votes (hr.mono (by decide)) rfl tk (da_cons (de_var 1) (da_cons (de_var 2) da_nil))))
    (dss_cons (ds_if (DW.db (dw_or (db_eq hu rfl (de_var 0) de_int) (dw_or1 (db_eq hu rfl (de_var 0) de_int)))) (dss_cons (ds_ret (de_var 3))
    dss_nil) dss_nil)
    (dss_cons (ds_ret (de_sub (de_ix rfl (de_var 3) de_int) (de_ix rfl (de_var 3) de_int)))
    dss_nil)))), sat_law_due⟩)
theorem ok_law_here {P : Program} {w : World} {K : PySem.W.Frag} {mg : Str → Option Value} {base : Heap} {f : Addr} {fd : FuncData}  (F : FunD K "_law_here" "_law_here" (defArgs s_law_here) (defBody s_law_here) (defScope s_law_here) [] [] f fd) (hm : mg "_law_here" = some (.ref f)) (T : Bt mg free) (Y : ErF K mg errs) (F_law_word : FD P w K mg base 4 "_law_word" 2 W_law_word) :
    FD P w K mg base 5 "_law_here" 2 W_law_here := by
  have sc : FnScope ["_law_store_here", "_law_wide_here", "_law_x", "_law_k"] ["_law_store_here", "_law_wide_here"] (defScope s_law_here) := ⟨rfl, rfl, rfl, by decide +kernel, rfl, by decide +kernel, by decide +kernel⟩
  exact fd_ok mono_law_here F sc hm len_law_here (fun _ _ _ _ _ _ us hl => match us, hl with | [_, _], _ => rfl) (fun cdv A outer s H E so B hr tk => ⟨p_law_here, (have hu := hr.units; (dss_cons (ds_if (db_lt (de_var 1) de_int) (dss_cons (ds_ret (de_lcA 2 rfl sc.nd (di_range1 (T.of "range") (da_cons (de_shl de_int (de_var 1)) da_nil)) (blkOk_of rfl) (fun _ _ _ _ _ => pg_name sc.nd rfl (by first | exact .inl rfl | exact .inr rfl)) (fun _ _ _ _ _ => (de_var 2))))
    dss_nil) dss_nil)
    (dss_cons (ds_ret (de_addA (de_lst (da_cons de_int da_nil)) (de_lcA 3 rfl sc.nd (di_range1 (T.of "range") (da_cons de_int da_nil)) (blkOk_of rfl) (fun _ _ _ _ _ => pg_name sc.nd rfl (by first | exact .inl rfl | exact .inr rfl)) (fun _ _ _ _ _ => (de_call F_law_word (hr.mono (by decide)) rfl takes_no (da_cons (de_var 0) (da_cons (de_var 1) da_nil)))))))
    dss_nil))), sat_law_here⟩)
theorem ok_law_call {P : Program} {w : World} {K : PySem.W.Frag} {mg : Str → Option Value} {base : Heap} {f : Addr} {fd : FuncData}  (F : FunD K "_law_call" "_law_call" (defArgs s_law_call) (defBody s_law_call) (defScope s_law_call) [] [] f fd) (hm : mg "_law_call" = some (.ref f)) (T : Bt mg free) (Y : ErF K mg errs) (F_law_due : FD P w K mg base 2 "_law_due" 3 W_law_due) (F_law_same : FD P w K mg base 6 "_law_same" 2 (W_law_same 6)) (F_law_told : FD P w K mg base 7 "_law_told" 2 W_law_told) (F_law_number_fault_iv : FD P w K mg base 1 "_law_number_fault" 3 W_law_number_fault_iv) (F_law_first_fault : FD P w K mg base 1 "_law_first_fault" 1 W_law_first_fault) (F_law_take : FD P w K mg base 3 "_law_take" 2 W_law_take) (F_law_odd_number_iv : FD P w K mg base 8 "_law_odd_number" 3 W_law_odd_number_iv) (F_law_word : FD P w K mg base 4 "_law_word" 2 W_law_word) (F_law_odd_table : FD P w K mg base 8 "_law_odd_table" 1 W_law_odd_table) :
    FD P w K mg base 9 "_law_call" 4 W_law_call := by
  have sc : FnScope ["_law_store_here", "_law_one", "_law_wide_here", "_law_mine", "_law_which", "_law_here_here", "_law_fault", "_law_at", "_law_due_here", "_law_told_here"] ["_law_store_here", "_law_one", "_law_wide_here", "_law_mine"] (defScope s_law_call) := ⟨rfl, rfl, rfl, by decide +kernel, rfl, by decide +kernel, by decide +kernel⟩
  exact fd_ok mono_law_call F sc hm len_law_call (fun _ _ _ _ _ _ us hl => match us, hl with | [_, _, _, _], _ => rfl) (fun cdv A outer s H E so B hr tk => ⟨p_law_call, (have hu := hr.units; (dss_cons (ds_set 4 sc.nd (de_call F_law_take (hr.mono (by decide)) rfl tk (da_cons (de_var 0) (da_cons de_int da_nil))))
    (dss_cons (ds_set 5 sc.nd (de_var 1))
    (dss_cons (ds_set 6 sc.nd de_str)
    (dss_cons (ds_if (db_eq hu rfl (de_call F_law_take (hr.mono (by decide)) rfl tk (da_cons (de_var 0) (da_cons de_int da_nil))) de_int) (dss_cons (ds_set 5 sc.nd (de_call F_law_odd_table (hr.mono (by decide)) rfl tk (da_cons (de_var 0) da_nil)))
    (dss_cons (ds_set 6 sc.nd de_str)
    dss_nil)) dss_nil)
    (dss_cons (ds_set 7 sc.nd (de_call F_law_word (hr.mono (by decide)) rfl tk (da_cons (de_var 0) (da_cons (de_var 2) da_nil))))
    (dss_cons (ds_if (db_gt (de_call F_law_take (hr.mono (by decide)) rfl tk (da_cons (de_var 0) (da_cons de_int da_nil))) de_int) (dss_cons (ds_set 7 sc.nd (de_call F_law_odd_number_iv (hr.mono (by decide)) rfl tk (da_cons (de_var 0) (da_cons de_int (da_cons (de_sub (de_shl de_int (de_var 2)) de_int) da_nil)))))
    dss_nil) dss_nil)
    (dss_cons (ds_set 8 sc.nd (de_call F_law_first_fault (hr.mono (by decide)) rfl tk (da_cons (de_lst (da_cons (de_tup (da_cons de_str (da_cons (de_var 6) da_nil))) (da_cons (de_tup (da_cons de_str (da_cons (de_call F_law_number_fault_iv (hr.mono (by decide)) rfl tk (da_cons (de_var 7) (da_cons de_int (da_cons (de_sub (de_shl de_int (de_var 2)) de_int) da_nil)))) da_nil))) da_nil))) da_nil)))
    (dss_cons (ds_set 9 sc.nd (de_call F_law_told (hr.mono (by decide)) rfl tk (da_cons (de_var 4) (da_cons (de_lst (da_cons (de_var 5) (da_cons (de_var 7) da_nil))) da_nil))))
    (dss_cons (ds_if (db_notN (de_var 8) de_non) (dss_cons (ds_ret (de_call F_law_same (hr.mono (by decide)) rfl tk (da_cons (de_var 9) (da_cons (de_tup (da_cons de_str (da_cons (de_var 8) da_nil))) da_nil))))
    dss_nil) dss_nil)
    (dss_cons (ds_ret (de_call F_law_same (hr.mono (by decide)) rfl tk (da_cons (de_var 9) (da_cons (de_tup (da_cons de_str (da_cons (de_call F_law_due (hr.mono (by decide)) rfl tk (da_cons (de_var 4) (da_cons (de_var 3) (da_cons (de_var 7) da_nil)))) da_nil))) da_nil))))
    dss_nil))))))))))), sat_law_call⟩)
theorem ok_law {P : Program} {w : World} {K : PySem.W.Frag} {mg : Str → Option Value} {base : Heap} {f : Addr} {fd : FuncData}  (F : FunD K "law" "law" (defArgs s_law) (defBody s_law) (defScope s_law) [] [] f fd) (T : Bt mg free) (Y : ErF K mg errs) (F_law_is_table : FD P w K mg base 7 "_law_is_table" 3 W_law_is_table) (F_law_due : FD P w K mg base 2 "_law_due" 3 W_law_due) (K_margin_word_table : FDK P w K mg base 5 "margin" 2 ["word", "table"] [1, 0] W_margin) (F_law_same : FD P w K mg base 6 "_law_same" 2 (W_law_same 6)) (F_law_votes : FD P w K mg base 1 "_law_votes" 2 W_law_votes) (K_votes_at_word_table : FDK P w K mg base 4 "votes_at" 2 ["word", "table"] [1, 0] W_votes_at) (F_law_pick : FD P w K mg base 4 "_law_pick" 2 W_law_pick) (F_law_call : FD P w K mg base 9 "_law_call" 4 W_law_call) (F_margin : FD P w K mg base 5 "margin" 2 W_margin) (F_votes_at : FD P w K mg base 4 "votes_at" 2 W_votes_at) (F_law_ask : FD P w K mg base 6 "_law_ask" 2 W_law_ask) (F_law_take : FD P w K mg base 3 "_law_take" 2 W_law_take) (F_law_here : FD P w K mg base 5 "_law_here" 2 W_law_here) (I_Table_init : FDi P w K mg base 6 "Table" 2 W_Table_init) (F_law_bits : FD P w K mg base 6 "_law_bits" 2 W_law_bits) (F_law_width : FD P w K mg base 4 "_law_width" 3 W_law_width) (F_law_store : FD P w K mg base 1 "_law_store" 1 W_law_store) (sp : Sp) (hsp : ∀ vs H Q E, sp vs H Q E → ∃ (p : Addr) (ns : List Int), vs = [.ref p] ∧ SqL K H p (ns.map V.int) ∧ ∀ H', Q (.bl true) H') :
    FnOk P w K mg base (L2N.CX P w) 10 f fd ["_law_script"] sp := by
  have sc : FnScope ["_law_script", "_law_store_here", "_law_wide_here", "_law_mine", "_law_other", "_law_one", "_law_two", "_law_row", "_law_x", "_law_which", "_law_k", "_law_at"] ["_law_script"] (defScope s_law) := ⟨rfl, rfl, rfl, by decide +kernel, rfl, by decide +kernel, by decide +kernel⟩
  exact law_ok (we := (wCall W_law_store (wCons (wVar 0) wNil))) (u := p_law) F sc sp hsp (fun cdv A outer s H E hr tk G g1 g2 => by
    obtain ⟨K1, so, B, H1, E1⟩ := G
    cases g1; cases g2
    have hu := hr.units
    exact ⟨(ds_set 1 sc.nd (de_call F_law_store (hr.mono (by decide)) rfl tk (da_cons (de_var 0) da_nil))),
      (dss_cons (ds_set 2 sc.nd (de_call F_law_width (hr.mono (by decide)) rfl tk (da_cons (de_var 1) (da_cons de_int (da_cons de_int da_nil)))))
    (dss_cons (ds_set 3 sc.nd (de_call F_law_bits (hr.mono (by decide)) rfl tk (da_cons (de_var 1) (da_cons (de_var 2) da_nil))))
    (dss_cons (ds_set 4 sc.nd (de_call F_law_bits (hr.mono (by decide)) rfl tk (da_cons (de_var 1) (da_cons (de_var 2) da_nil))))
    (dss_cons (ds_set 5 sc.nd (de_make I_Table_init (hr.mono (by decide)) rfl tk (fun _ _ => rfl) (da_cons (de_var 2) (da_cons (de_list rfl (T.of "list") (da_cons (de_var 3) da_nil)) da_nil))))
    (dss_cons (ds_set 6 sc.nd (de_make I_Table_init (hr.mono (by decide)) rfl tk (fun _ _ => rfl) (da_cons (de_var 2) (da_cons (de_list rfl (T.of "list") (da_cons (de_var 4) da_nil)) da_nil))))
    (dss_cons (ds_set 7 sc.nd (de_call F_law_here (hr.mono (by decide)) rfl tk (da_cons (de_var 1) (da_cons (de_var 2) da_nil))))
    (dss_cons (ds_for (passes_of rfl) rfl (di_list rfl (de_var 7)) (dg_name 8 sc.nd) (dss_cons (ds_set 9 sc.nd (de_call F_law_take (hr.mono (by decide)) rfl tk (da_cons (de_var 1) (da_cons de_int da_nil))))
    (dss_cons (ds_if (DW.db (dw_or (db_not (db_val (de_call F_law_same (hr.mono (by decide)) rfl tk (da_cons (de_call F_votes_at (hr.mono (by decide)) rfl tk (da_cons (de_var 5) (da_cons (de_var 8) da_nil))) (da_cons (de_call F_law_votes (hr.mono (by decide)) rfl tk (da_cons (de_var 3) (da_cons (de_var 8) da_nil))) da_nil))))) (dw_or1 (db_not (db_val (de_call F_law_same (hr.mono (by decide)) rfl tk (da_cons (de_call F_margin (hr.mono (by decide)) rfl tk (da_cons (de_var 5) (da_cons (de_var 8) da_nil))) (da_cons (de_call F_law_due (hr.mono (by decide)) rfl tk (da_cons de_int (da_cons (de_var 3) (da_cons (de_var 8) da_nil)))) da_nil)))))))) (dss_cons (ds_ret de_bl)
    dss_nil) dss_nil)
    (dss_cons (ds_if (db_not (db_val (de_call F_law_same (hr.mono (by decide)) rfl tk (da_cons (de_call F_law_ask (hr.mono (by decide)) rfl tk (da_cons (de_var 9) (da_cons (de_lst (da_cons (de_var 6) (da_cons (de_var 8) da_nil))) da_nil))) (da_cons (de_call F_law_due (hr.mono (by decide)) rfl tk (da_cons (de_var 9) (da_cons (de_var 4) (da_cons (de_var 8) da_nil)))) da_nil))))) (dss_cons (ds_ret de_bl)
    dss_nil) dss_nil)
    dss_nil))))
    (dss_cons (ds_if (db_not (db_val (de_call F_law_same (hr.mono (by decide)) rfl tk (da_cons (de_lst (da_cons (de_call F_votes_at (hr.mono (by decide)) rfl tk (da_cons (de_var 5) (da_cons de_int da_nil))) (da_cons (de_call F_margin (hr.mono (by decide)) rfl tk (da_cons (de_var 6) (da_cons de_int da_nil))) da_nil))) (da_cons (de_lst (da_cons (de_tup (da_cons (de_shl de_int (de_var 2)) (da_cons de_int da_nil))) (da_cons (de_shl de_int (de_var 2)) da_nil))) da_nil))))) (dss_cons (ds_ret de_bl)
    dss_nil) dss_nil)
    (dss_cons (ds_for (passes_of rfl) rfl (di_range1 (T.of "range") (da_cons de_int da_nil)) (dg_name 10 sc.nd) (dss_cons (ds_if (db_not (db_val (de_call F_law_call (hr.mono (by decide)) rfl tk (da_cons (de_var 1) (da_cons (de_var 5) (da_cons (de_var 2) (da_cons (de_var 3) da_nil))))))) (dss_cons (ds_ret de_bl)
    dss_nil) dss_nil)
    dss_nil))
    (dss_cons (ds_set 11 sc.nd (de_call F_law_pick (hr.mono (by decide)) rfl tk (da_cons (de_var 1) (da_cons (de_var 7) da_nil))))
    (dss_cons (ds_if (db_not (db_val (de_call F_law_same (hr.mono (by decide)) rfl tk (da_cons (de_callK K_votes_at_word_table (hr.mono (by decide)) rfl tk (dk_cons (de_var 11) (dk_cons (de_var 5) dk_nil)) (fun ds hl => match ds, hl with | [_, _], _ => rfl)) (da_cons (de_call F_law_votes (hr.mono (by decide)) rfl tk (da_cons (de_var 3) (da_cons (de_var 11) da_nil))) da_nil))))) (dss_cons (ds_ret de_bl)
    dss_nil) dss_nil)
    (dss_cons (ds_if (db_not (db_val (de_call F_law_same (hr.mono (by decide)) rfl tk (da_cons (de_callK K_margin_word_table (hr.mono (by decide)) rfl tk (dk_cons (de_var 11) (dk_cons (de_var 5) dk_nil)) (fun ds hl => match ds, hl with | [_, _], _ => rfl)) (da_cons (de_call F_law_due (hr.mono (by decide)) rfl tk (da_cons de_int (da_cons (de_var 3) (da_cons (de_var 11) da_nil)))) da_nil))))) (dss_cons (ds_ret de_bl)
    dss_nil) dss_nil)
    (dss_cons (ds_ret (de_and (de_call F_law_is_table (hr.mono (by decide)) rfl tk (da_cons (de_var 5) (da_cons (de_var 2) (da_cons (de_var 3) da_nil)))) (de_one (de_call F_law_is_table (hr.mono (by decide)) rfl tk (da_cons (de_var 6) (da_cons (de_var 2) (da_cons (de_var 4) da_nil)))))))
    dss_nil)))))))))))))⟩) mono_store_call sat_store_call sat_law (by decide)
end C
set_option Elab.async false
set_option maxRecDepth 100000
set_option maxHeartbeats 4000000
set_option linter.unusedVariables false
namespace C
open PySem PySem.Spec PyProof.Rows L2 NdefX DL H44
abbrev PP : Program := PySem.Challenge.rw_bitshades_k44_votes_at_a_word.prog
abbrev spL (K : PySem.W.Frag) : Sp := fun vs H Q _ => ∃ (p : Addr) (ns : List Int), vs = [.ref p] ∧ SqL K H p (ns.map V.int) ∧ ∀ H', Q (.bl true) H'
theorem facts {w : World} {K : PySem.W.Frag} {h : Heap} {mg : Str → Option Value} {f : Addr} (X : K.In h) (G : h.Ns mainGlobals mg) (hfa : mg ("law" : Str) = some (.ref f)) (cy : SaysY H44.ck H44.fn H44.ms K) :
    ∃ fd : FuncData, (∀ (s : Shared) (v : Value), BindsTo s fd ⟨[v], []⟩ [("_law_script", v)]) ∧ ∀ base : Heap, K.In base → base.Ns mainGlobals mg → FnOk PP w K mg base (L2N.CX PP w) 10 f fd ["_law_script"] (spL K) := by
  have c := cy.says
  have cc := c.chk
  unfold H44.ck at cc
  rw [Bool.and_eq_true] at cc
  obtain ⟨cc, co⟩ := cc
  unfold H44.ck12 at cc
  unfold H44.ck11 H44.ck13 at co
  simp only [Bool.and_eq_true] at cc
  obtain ⟨c1, c2, c3, c4, c5, c6, c7, c8, c9, c10⟩ := cc
  have g : ∀ (i : Nat) {d : He.DefD}, H44.fn[i]? = some ⟨d, []⟩ → mg d.at_.1 = some (.ref (He.ga K d.at_.1)) := fun i d e => glosA_of X G c6 i e
  have T : Bt mg H44.free := bt_of X G c5
  have Y : ErF K mg C.errs := erF_of X G c1 c3 c4
  have hi : ∀ c, c ∈ H44.inis → iniB K PP.main.file c = true := fun c hc => List.all_eq_true.mp c2 c hc
  have ht : (PP.main.scope.names.lookup ("super" : Str)).isSome = false := by decide +kernel
  have hs : mg "super" = none := T.of "super"
  simp only [Bool.and_eq_true] at co
  obtain ⟨⟨co1, co2, co3⟩, co4⟩ := co
  have hMs : ∀ (i : Nat) {m : MemD}, H44.ms[i]? = some m → memB K m = true := fun i m e => List.all_eq_true.mp co2 m (List.mem_of_getElem? e)
  obtain ⟨O_Table, hC_Table, hMk_Table, hSf_Table⟩ := ownB_ok (c := "Table") X G (List.all_eq_true.mp co1 _ (List.mem_of_getElem? (i := 0) rfl))
  obtain ⟨O_Asked, hC_Asked, hMk_Asked, hSf_Asked⟩ := ownB_ok (c := "Asked") X G (List.all_eq_true.mp co1 _ (List.mem_of_getElem? (i := 1) rfl))
  have hIK : InsK K okI := insB_ok co4 (fun c hc => by unfold okI at hc; simp only [Bool.or_eq_true, beq_iff_eq] at hc; rcases hc with rfl | rfl <;> decide +kernel) (fun c hc => by unfold H44.owns at hc; simp only [List.mem_cons, List.not_mem_nil, or_false] at hc; rcases hc with rfl | rfl <;> assumption)
  have hNo_wide : NoAttr K (He.ga K "Table") "wide" := He.noat_ok (List.all_eq_true.mp co3 ("Table", "wide") (List.mem_of_getElem? (i := 0) rfl))
  have hFl_wide : ∀ c, okT c = true → FldK K c "wide" := fun c hc => by
    have e : c = "Table" := of_decide_eq_true hc
    subst e
    exact ⟨hC_Table, hNo_wide⟩
  have hNo_held : NoAttr K (He.ga K "Table") "held" := He.noat_ok (List.all_eq_true.mp co3 ("Table", "held") (List.mem_of_getElem? (i := 1) rfl))
  have hFl_held : ∀ c, okT c = true → FldK K c "held" := fun c hc => by
    have e : c = "Table" := of_decide_eq_true hc
    subst e
    exact ⟨hC_Table, hNo_held⟩
  have hNo_held_table : NoAttr K (He.ga K "Asked") "held_table" := He.noat_ok (List.all_eq_true.mp co3 ("Asked", "held_table") (List.mem_of_getElem? (i := 2) rfl))
  have hNo_held_limit : NoAttr K (He.ga K "Asked") "held_limit" := He.noat_ok (List.all_eq_true.mp co3 ("Asked", "held_limit") (List.mem_of_getElem? (i := 3) rfl))
  have hNo_held_words : NoAttr K (He.ga K "Asked") "held_words" := He.noat_ok (List.all_eq_true.mp co3 ("Asked", "held_words") (List.mem_of_getElem? (i := 4) rfl))
  obtain ⟨fm0, M0⟩ := cy.mem 0 (m := H44.m_Table_init) rfl
  obtain ⟨fm1, M1⟩ := cy.mem 1 (m := H44.m_Table_width) rfl
  obtain ⟨fm2, M2⟩ := cy.mem 2 (m := H44.m_Table_bits) rfl
  obtain ⟨fm12, M12⟩ := cy.mem 12 (m := H44.m_Asked_init) rfl
  obtain ⟨tk_MOST_WIDTH, m_of_MOST_WIDTH⟩ := He.int_ok X G (List.all_eq_true.mp c7 _ (List.mem_of_getElem? (i := 0) rfl))
  obtain ⟨tk_MOST_LIMIT, m_of_MOST_LIMIT⟩ := He.int_ok X G (List.all_eq_true.mp c7 _ (List.mem_of_getElem? (i := 1) rfl))
  have EX_OutOfRange := fun base : Heap => erc_of (P := PP) (w := w) (base := base) (c := "OutOfRange") (y := "argument") (hi "OutOfRange" (by decide +kernel)) (c.val 47 (d := H44.i_OutOfRange) rfl) c8 ht (Y.mg "OutOfRange" (by decide +kernel)) hs (nscope_by (by decide +kernel)) rfl
    (fun X hN hsc => pe_fsA (i := 0) (pe_var (i := 1) (by rw [hN]; rfl) (.inl (by rw [hsc]; rfl)))) (fsA (by decide +kernel)) (ar := _) rfl rfl rfl (fun env => rfl) rfl rfl rfl (fun _ _ _ _ _ _ _ _ _ us hl => match us, hl with | [_, _], _ => rfl)
  have EX_WrongKind := fun base : Heap => erc_of (P := PP) (w := w) (base := base) (c := "WrongKind") (y := "argument") (hi "WrongKind" (by decide +kernel)) (c.val 45 (d := H44.i_WrongKind) rfl) c8 ht (Y.mg "WrongKind" (by decide +kernel)) hs (nscope_by (by decide +kernel)) rfl
    (fun X hN hsc => pe_fsA (i := 0) (pe_var (i := 1) (by rw [hN]; rfl) (.inl (by rw [hsc]; rfl)))) (fsA (by decide +kernel)) (ar := _) rfl rfl rfl (fun env => rfl) rfl rfl rfl (fun _ _ _ _ _ _ _ _ _ us hl => match us, hl with | [_, _], _ => rfl)
  have EX_WrongSize := fun base : Heap => erc_of (P := PP) (w := w) (base := base) (c := "WrongSize") (y := "argument") (hi "WrongSize" (by decide +kernel)) (c.val 46 (d := H44.i_WrongSize) rfl) c8 ht (Y.mg "WrongSize" (by decide +kernel)) hs (nscope_by (by decide +kernel)) rfl
    (fun X hN hsc => pe_fsA (i := 0) (pe_var (i := 1) (by rw [hN]; rfl) (.inl (by rw [hsc]; rfl)))) (fsA (by decide +kernel)) (ar := _) rfl rfl rfl (fun env => rfl) rfl rfl rfl (fun _ _ _ _ _ _ _ _ _ us hl => match us, hl with | [_, _], _ => rfl)
  have hXf : ∀ c, okX c = true → XfK K c := fun c hc => by
    have hc2 : c ∈ C.inis := by unfold okX at hc; simpa using hc
    unfold C.inis at hc2
    simp only [List.mem_cons, List.not_mem_nil, or_false] at hc2
    rcases hc2 with rfl | rfl | rfl | rfl | rfl | rfl | rfl | rfl
    · obtain ⟨_, _, _, _, _, _, _, _, _, _, _, z⟩ := supC_of (P := PP) (hi "WrongKind" (by decide +kernel)) (c.val 45 (d := H44.i_WrongKind) rfl) c8 ht
      exact z
    · obtain ⟨_, _, _, _, _, _, _, _, _, _, _, z⟩ := supC_of (P := PP) (hi "WrongSize" (by decide +kernel)) (c.val 46 (d := H44.i_WrongSize) rfl) c8 ht
      exact z
    · obtain ⟨_, _, _, _, _, _, _, _, _, _, _, z⟩ := supC_of (P := PP) (hi "OutOfRange" (by decide +kernel)) (c.val 47 (d := H44.i_OutOfRange) rfl) c8 ht
      exact z
    · obtain ⟨_, _, _, _, _, _, _, _, _, _, _, z⟩ := supC_of (P := PP) (hi "BadText" (by decide +kernel)) (c.val 48 (d := H44.i_BadText) rfl) c8 ht
      exact z
    · obtain ⟨_, _, _, _, _, _, _, _, _, _, _, z⟩ := supC_of (P := PP) (hi "Spent" (by decide +kernel)) (c.val 49 (d := H44.i_Spent) rfl) c8 ht
      exact z
    · obtain ⟨_, _, _, _, _, _, _, _, _, _, _, z⟩ := supC_of (P := PP) (hi "WrongPaper" (by decide +kernel)) (c.val 51 (d := H44.i_WrongPaper) rfl) c8 ht
      exact z
    · obtain ⟨_, _, _, _, _, _, _, _, _, _, _, z⟩ := supC_of (P := PP) (hi "UnknownName" (by decide +kernel)) (c.val 52 (d := H44.i_UnknownName) rfl) c8 ht
      exact z
    · obtain ⟨_, _, _, _, _, _, _, _, _, _, _, z⟩ := supC_of (P := PP) (hi "NameTaken" (by decide +kernel)) (c.val 53 (d := H44.i_NameTaken) rfl) c8 ht
      exact z
  obtain ⟨fd1, F1⟩ := c.def_ 1 (d := H44.d_check_integer_tables) rfl
  obtain ⟨fd2, F2⟩ := c.def_ 2 (d := H44.d_check_between) rfl
  obtain ⟨fd3, F3⟩ := c.def_ 3 (d := H44.d_check_width) rfl
  obtain ⟨fd4, F4⟩ := c.def_ 4 (d := H44.d_check_word_tables) rfl
  obtain ⟨fd5, F5⟩ := c.def_ 5 (d := H44.d_check_row) rfl
  obtain ⟨fd6, F6⟩ := c.def_ 6 (d := H44.d_check_bits) rfl
  obtain ⟨fd7, F7⟩ := c.def_ 7 (d := H44.d_holds_integer) rfl
  obtain ⟨fd8, F8⟩ := c.def_ 8 (d := H44.d_check_bounds) rfl
  obtain ⟨fd9, F9⟩ := c.def_ 9 (d := H44.d_check_table_pairs) rfl
  obtain ⟨fd10, F10⟩ := c.def_ 10 (d := H44.d_counted_votes) rfl
  obtain ⟨fd11, F11⟩ := c.def_ 11 (d := H44.d_votes_at) rfl
  obtain ⟨fd12, F12⟩ := c.def_ 12 (d := H44.d_margin) rfl
  obtain ⟨fd14, F14⟩ := c.def_ 14 (d := H44.d_check_integer_asking) rfl
  obtain ⟨fd16, F16⟩ := c.def_ 16 (d := H44.d_check_table_asking) rfl
  obtain ⟨fd17, F17⟩ := c.def_ 17 (d := H44.d_law_mixed) rfl
  obtain ⟨fd18, F18⟩ := c.def_ 18 (d := H44.d_law_wide) rfl
  obtain ⟨fd19, F19⟩ := c.def_ 19 (d := H44.d_law_store) rfl
  obtain ⟨fd20, F20⟩ := c.def_ 20 (d := H44.d_law_take) rfl
  obtain ⟨fd21, F21⟩ := c.def_ 21 (d := H44.d_law_pick) rfl
  obtain ⟨fd22, F22⟩ := c.def_ 22 (d := H44.d_law_same) rfl
  obtain ⟨fd24, F24⟩ := c.def_ 24 (d := H44.d_law_is_table) rfl
  obtain ⟨fd25, F25⟩ := c.def_ 25 (d := H44.d_law_size) rfl
  obtain ⟨fd26, F26⟩ := c.def_ 26 (d := H44.d_law_parity) rfl
  obtain ⟨fd27, F27⟩ := c.def_ 27 (d := H44.d_law_width) rfl
  obtain ⟨fd28, F28⟩ := c.def_ 28 (d := H44.d_law_word) rfl
  obtain ⟨fd29, F29⟩ := c.def_ 29 (d := H44.d_law_bits_of) rfl
  obtain ⟨fd30, F30⟩ := c.def_ 30 (d := H44.d_law_bits_up) rfl
  obtain ⟨fd31, F31⟩ := c.def_ 31 (d := H44.d_law_bits) rfl
  obtain ⟨fd32, F32⟩ := c.def_ 32 (d := H44.d_law_number_fault) rfl
  obtain ⟨fd33, F33⟩ := c.def_ 33 (d := H44.d_law_first_fault) rfl
  obtain ⟨fd34, F34⟩ := c.def_ 34 (d := H44.d_law_odd_number) rfl
  obtain ⟨fd35, F35⟩ := c.def_ 35 (d := H44.d_law_kinds) rfl
  obtain ⟨fd36, F36⟩ := c.def_ 36 (d := H44.d_law_refusal) rfl
  obtain ⟨fd37, F37⟩ := c.def_ 37 (d := H44.d_law_told) rfl
  obtain ⟨fd38, F38⟩ := c.def_ 38 (d := H44.d_law_odd_table) rfl
  obtain ⟨fd39, F39⟩ := c.def_ 39 (d := H44.d_law_ask) rfl
  obtain ⟨fd40, F40⟩ := c.def_ 40 (d := H44.d_law_votes) rfl
  obtain ⟨fd41, F41⟩ := c.def_ 41 (d := H44.d_law_due) rfl
  obtain ⟨fd42, F42⟩ := c.def_ 42 (d := H44.d_law_here) rfl
  obtain ⟨fd43, F43⟩ := c.def_ 43 (d := H44.d_law_call) rfl
  obtain ⟨fd44, F44⟩ := c.def_ 44 (d := H44.d_law) rfl
  have e := hfa.symm.trans (g 44 rfl)
  cases e
  have b := FunD.bindsA (ps := ["_law_script"]) F44 fun _ _ _ _ _ _ us hl => match us, hl with | [_], _ => rfl
  refine ⟨fd44, fun s v => b s [v] rfl, fun base _ _ => ?_⟩
  have hsp : ∀ vs H Q E, spL K vs H Q E → ∃ (p : Addr) (ns : List Int), vs = [.ref p] ∧ SqL K H p (ns.map V.int) ∧ ∀ H', Q (.bl true) H' := fun _ _ _ _ z => z
  have sp := spL K
  have E_OutOfRange := (EX_OutOfRange base).1
  have E_WrongKind := (EX_WrongKind base).1
  have E_WrongSize := (EX_WrongSize base).1
  have G_Table_width := ok_Table_width (P := PP) (w := w) (base := base) M1 T Y (hFl_wide := hFl_wide) hC_Table (memB_get (hMs 1 rfl) rfl)
  have G_Table_bits := ok_Table_bits (P := PP) (w := w) (base := base) M2 T Y (hFl_held := hFl_held) hC_Table (memB_get (hMs 2 rfl) rfl)
  have F_holds_integer := ok_holds_integer (P := PP) (w := w) (base := base) F7 (g 7 rfl) T Y (hIK := hIK)
  have F_counted_votes := ok_counted_votes (P := PP) (w := w) (base := base) F10 (g 10 rfl) T Y 
  have F_law_mixed := ok_law_mixed (P := PP) (w := w) (base := base) F17 (g 17 rfl) T Y 
  have F_law_store := ok_law_store (P := PP) (w := w) (base := base) F19 (g 19 rfl) T Y 
  have F_law_size := ok_law_size (P := PP) (w := w) (base := base) F25 (g 25 rfl) T Y 
  have F_law_number_fault_iv := ok_law_number_fault_iv (P := PP) (w := w) (base := base) F32 (g 32 rfl) T Y (hIK := hIK)
  have F_law_first_fault := ok_law_first_fault (P := PP) (w := w) (base := base) F33 (g 33 rfl) T Y 
  have P_law_kinds : ∀ pn, FDP PP w K mg base 1 "_law_kinds" 1 pn (W_law_kinds pn) := fun pn => ok_law_kinds pn F35 (g 35 rfl) T Y 
  have F_law_votes := ok_law_votes (P := PP) (w := w) (base := base) F40 (g 40 rfl) T Y 
  have F_law_wide := ok_law_wide (P := PP) (w := w) (base := base) F18 (g 18 rfl) T Y (F_law_mixed := F_law_mixed)
  have F_law_parity := ok_law_parity (P := PP) (w := w) (base := base) F26 (g 26 rfl) T Y (F_law_size := F_law_size)
  have F_law_due := ok_law_due (P := PP) (w := w) (base := base) F41 (g 41 rfl) T Y (F_law_votes := F_law_votes)
  have F_check_integer_tables := ok_check_integer_tables (P := PP) (w := w) (base := base) F1 (g 1 rfl) T Y (E_WrongKind := E_WrongKind)
  have F_check_row_tables := ok_check_row_tables (P := PP) (w := w) (base := base) F5 (g 5 rfl) T Y (E_WrongSize := E_WrongSize) (E_WrongKind := E_WrongKind)
  have F_check_bounds := ok_check_bounds (P := PP) (w := w) (base := base) F8 (g 8 rfl) T Y (E_OutOfRange := E_OutOfRange) (F_holds_integer := F_holds_integer) (E_WrongKind := E_WrongKind)
  have F_check_table_pairs := ok_check_table_pairs (P := PP) (w := w) (base := base) F9 (g 9 rfl) T Y (O_Table := O_Table) (hIK := hIK) (E_WrongKind := E_WrongKind)
  have F_check_table_asking := ok_check_table_asking (P := PP) (w := w) (base := base) F16 (g 16 rfl) T Y (O_Table := O_Table) (hIK := hIK) (E_WrongKind := E_WrongKind)
  have F_law_take := ok_law_take (P := PP) (w := w) (base := base) F20 (g 20 rfl) T Y (F_law_wide := F_law_wide)
  have F_check_between_tables := ok_check_between_tables (P := PP) (w := w) (base := base) F2 (g 2 rfl) T Y (E_OutOfRange := E_OutOfRange) (F_check_integer_tables := F_check_integer_tables)
  have K_votes_at_word_table := okK_votes_at_word_table (P := PP) (w := w) (base := base) F11 (g 11 rfl) T Y (G_Table_bits := G_Table_bits) (F_counted_votes := F_counted_votes) (G_Table_width := G_Table_width) (F_check_bounds := F_check_bounds) (F_check_table_pairs := F_check_table_pairs)
  have F_votes_at := ok_votes_at (P := PP) (w := w) (base := base) F11 (g 11 rfl) T Y (G_Table_bits := G_Table_bits) (F_counted_votes := F_counted_votes) (G_Table_width := G_Table_width) (F_check_bounds := F_check_bounds) (F_check_table_pairs := F_check_table_pairs)
  have F_check_integer_asking : FD PP w K mg base 4 "check_integer_asking" 4 W_check_integer_asking := fdA_never (ps := ["value", "least", "most", "argument"]) (fun _ _ _ h => h) F14 (g 14 rfl) (fun _ _ _ _ _ _ us hl => match us, hl with | [_, _, _, _], _ => rfl)
  have F_law_width := ok_law_width (P := PP) (w := w) (base := base) F27 (g 27 rfl) T Y (F_law_take := F_law_take)
  have F_law_word := ok_law_word (P := PP) (w := w) (base := base) F28 (g 28 rfl) T Y (F_law_take := F_law_take)
  have F_law_bits_up := ok_law_bits_up (P := PP) (w := w) (base := base) F30 (g 30 rfl) T Y (F_law_take := F_law_take)
  have F_law_pick := ok_law_pick (P := PP) (w := w) (base := base) F21 (g 21 rfl) T Y (F_law_take := F_law_take)
  have F_check_width_tables := ok_check_width_tables (P := PP) (w := w) (base := base) F3 (g 3 rfl) T Y (m_MOST_WIDTH := m_of_MOST_WIDTH) (F_check_between_tables := F_check_between_tables)
  have F_check_word_tables := ok_check_word_tables (P := PP) (w := w) (base := base) F4 (g 4 rfl) T Y (F_check_between_tables := F_check_between_tables)
  have F_check_bits := ok_check_bits (P := PP) (w := w) (base := base) F6 (g 6 rfl) T Y (F_check_between_tables := F_check_between_tables) (F_check_row_tables := F_check_row_tables)
  have K_margin_table_word := okK_margin_table_word (P := PP) (w := w) (base := base) F12 (g 12 rfl) T Y (F_votes_at := F_votes_at)
  have K_margin_word_table := okK_margin_word_table (P := PP) (w := w) (base := base) F12 (g 12 rfl) T Y (F_votes_at := F_votes_at)
  have F_margin := ok_margin (P := PP) (w := w) (base := base) F12 (g 12 rfl) T Y (F_votes_at := F_votes_at)
  have J_Asked_init := ok_Asked_init (P := PP) (w := w) (base := base) M12 T Y (hNo_held_words := hNo_held_words) (hNo_held_limit := hNo_held_limit) (hNo_held_table := hNo_held_table) (m_MOST_LIMIT := m_of_MOST_LIMIT) (F_check_integer_asking := F_check_integer_asking) (F_check_table_asking := F_check_table_asking) O_Asked hC_Asked hMk_Asked
  have F_law_bits_of := ok_law_bits_of (P := PP) (w := w) (base := base) F29 (g 29 rfl) T Y (F_law_parity := F_law_parity) (F_law_take := F_law_take) (F_law_size := F_law_size) (F_law_bits_up := F_law_bits_up)
  have P_law_refusal : ∀ pn, FDP PP w K mg base 5 "_law_refusal" 1 pn (W_law_refusal pn) := fun pn => ok_law_refusal pn F36 (g 36 rfl) T Y (hXf := hXf) (P_law_kinds := P_law_kinds pn)
  have F_law_here := ok_law_here (P := PP) (w := w) (base := base) F42 (g 42 rfl) T Y (F_law_word := F_law_word)
  have I_Table_init := ok_Table_init (P := PP) (w := w) (base := base) M0 T Y (hNo_held := hNo_held) (hNo_wide := hNo_wide) (F_check_bits := F_check_bits) (F_check_width_tables := F_check_width_tables) O_Table hC_Table hMk_Table
  have F_law_same : ∀ n, FD PP w K mg base n "_law_same" 2 (W_law_same n) := fun n => by
    induction n with
    | zero => exact fd_never (ps := ["_law_told_here", "_law_due_here"]) (fun _ _ _ ⟨d, _, h, _⟩ => by first | (unfold pl at h; cases h) | (unfold cp pd at h; cases h)) F22 (g 22 rfl) (fun _ _ _ _ _ _ us hl => match us, hl with | [_, _], _ => rfl)
    | succ n ih => exact ok_law_same F22 (g 22 rfl) T Y (F_law_same := ih)
  have F_law_same := F_law_same 6
  have F_law_bits := ok_law_bits (P := PP) (w := w) (base := base) F31 (g 31 rfl) T Y (F_law_take := F_law_take) (F_law_bits_of := F_law_bits_of)
  have F_law_ask := ok_law_ask (P := PP) (w := w) (base := base) F39 (g 39 rfl) T Y (K_margin_table_word := K_margin_table_word) (K_votes_at_word_table := K_votes_at_word_table) (F_margin := F_margin) (F_votes_at := F_votes_at)
  have F_law_is_table := ok_law_is_table (P := PP) (w := w) (base := base) F24 (g 24 rfl) T Y (G_Table_width := G_Table_width) (F_law_same := F_law_same) (G_Table_bits := G_Table_bits) (O_Table := O_Table) (hIK := hIK)
  have F_law_told := ok_law_told (P := PP) (w := w) (base := base) F37 (g 37 rfl) T Y (F_law_ask := F_law_ask) (P_law_refusal := P_law_refusal)
  have F_law_odd_number_iv := ok_law_odd_number_iv (P := PP) (w := w) (base := base) F34 (g 34 rfl) T Y (I_Table_init := I_Table_init) (F_law_take := F_law_take)
  have F_law_odd_table := ok_law_odd_table (P := PP) (w := w) (base := base) F38 (g 38 rfl) T Y (F_law_take := F_law_take) (I_Table_init := I_Table_init) (J_Asked_init := J_Asked_init)
  have F_law_call := ok_law_call (P := PP) (w := w) (base := base) F43 (g 43 rfl) T Y (F_law_due := F_law_due) (F_law_same := F_law_same) (F_law_told := F_law_told) (F_law_number_fault_iv := F_law_number_fault_iv) (F_law_first_fault := F_law_first_fault) (F_law_take := F_law_take) (F_law_odd_number_iv := F_law_odd_number_iv) (F_law_word := F_law_word) (F_law_odd_table := F_law_odd_table)
  exact ok_law (P := PP) (w := w) (base := base) F44 T Y (F_law_is_table := F_law_is_table) (F_law_due := F_law_due) (K_margin_word_table := K_margin_word_table) (F_law_same := F_law_same) (F_law_votes := F_law_votes) (K_votes_at_word_table := K_votes_at_word_table) (F_law_pick := F_law_pick) (F_law_call := F_law_call) (F_margin := F_margin) (F_votes_at := F_votes_at) (F_law_ask := F_law_ask) (F_law_take := F_law_take) (F_law_here := F_law_here) (I_Table_init := I_Table_init) (F_law_bits := F_law_bits) (F_law_width := F_law_width) (F_law_store := F_law_store) (spL K) hsp

theorem walk_N {l : PySem.W.OpenLaw} {n k : Nat} {q : Program} {loose : List Str} {XP : (Str → Option Value) → Heap → Prop} {YP : World → Heap → Prop} {d : DefRec} {x : Str} (h1 : l.most = some n) (h2 : n ≤ sizeLine) (h3 : d.params.defaults = []) (h4 : Room k callerA)
    (F : ∀ (w : World) (mg : Str → Option Value) (fa : Addr) (h : Heap), YP w h → h.Ns mainGlobals mg → mg d.name = some (.ref fa) → ∃ (K : PySem.W.Frag) (fd : FuncData), K.In h ∧ (∀ (s : Shared) (u : Value), BindsTo s fd ⟨[u], []⟩ [(x, u)]) ∧
      ∀ base : Heap, K.In base → base.Ns mainGlobals mg → FnOk l.prog w K mg base (L2N.CX l.prog w) k fa fd [x] (spL K)) :
    PySem.W.WalkO q loose XP YP l.row.toRowW d [] (fun f vs => PySem.call f vs) :=
  Att.attach_call h1 h3 fun w t u mg mb fa ob q1 q2 q3 li xs is G Y _ _ _ e1 e2 e3 e4 e5 => by
    obtain ⟨K, fd, X, hb, hF⟩ := F w mg fa _ Y G.T.g e1
    exact law_call X G.T.g G.T.b G.T.builtins G.T.nolimit e5 e2 e3 (Nat.le_trans e4 h2) h4 hF hb (fun H _ hS => ⟨li, is, rfl, hS, fun _ => rfl⟩) fun H e s' z => by
      obtain ⟨_, _, _, _, _, _, _, _, _, _, _, _, z⟩ := z
      exact z
end C
open PySem PySem.W PySem.Calls PyProof.Rows
theorem PySem.Challenge.cw_bitshades_k44_votes_at_a_word_holds : PySem.Challenge.rw_bitshades_k44_votes_at_a_word.Holds := by
  w_on; o_law
  refine HandSHeadRun.head_any (r := H44.R) (q := H44.qv) (H := H44.hk) (ob := H44.ob) (M := 12000) (loose := H44.loose) (d := HandSHeadRun.topDef H44.R.prog 73) (kwd := []) H44.ob_eq (by kernel_rfl) (fun s => by kernel_rfl) H44.run (by kernel_rfl) (by kernel_rfl) (by kernel_rfl) (by rfl) (by first | assumption | decide +kernel) (by decide +kernel) ⟨rfl, rfl, rfl, rfl, rfl, by decide +kernel⟩ ?hw ?hc
  case hw => w_witness2
  case hc =>
    refine C.walk_N (l := PySem.Challenge.rw_bitshades_k44_votes_at_a_word) (n := 63) (k := 10) (x := "_law_script") rfl (by decide) (by kernel_rfl) ⟨rfl, by decide, by decide⟩ ?F
    intro w mg fa h Y G hm0
    obtain ⟨K, X, c⟩ := Y
    have hm : mg ("law" : PySem.Str) = some (.ref fa) := by
      have e : (HandSHeadRun.topDef H44.R.prog 73).name = ("law" : PySem.Str) := by kernel_rfl
      exact e ▸ hm0
    obtain ⟨fd, hb, hF⟩ := C.facts (w := w) X G hm c
    exact ⟨K, fd, X, hb, hF⟩
