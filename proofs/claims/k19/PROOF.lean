import PyProof.Rows.All
import Wide.All
import OpenK.AllK
import Wide.FinOn
import HandS.ForMost
import HandS.Wide
import HandS.ExcCtx
import HandS.HotCalls
import HandS.HeadHook1
import HandS.Defaults
import HandS.IsInst
import HandS.WideBits
import HandS.List
import HandS.ExcIs
import HandS.ExcField
import KE.KExcIs
import KE.KExcSuper
import HandS.Nested
import HandS.ExcInit
import HandS.FStr
import HandS.Rev
import HandS.RevTup
import KE.KStateDown
import HandS.Head0
import HandS.Head1
import HandS.Head2
import HandS.HeadEnd
import HandS.HeadHook2
import HandS.HeadWalk
import HandS.Text
import HandS.Iter
import KE.KIndexOf
import HandS.OwnEq
import HandS.Property
import HandS.Comp
import HandS.Zip
import KE.KTupSum
import HandS.Style
import HandS.SortInts
import HandS.Conv
import PyProof.Rows.Range3
import HandS.SortKw
import KE.DatumOrd
import HandS.DictComp
import PySem.Challenge.RW_bitshades_k19_scores_by_three_ways
set_option Elab.async false
set_option maxRecDepth 100000
set_option maxHeartbeats 4000000
set_option linter.unusedVariables false
/-! data-level layer, part a: values as trees, what stands in the heap -/
namespace DL
open PySem PySem.Spec PyProof.Rows L2

/-- a value as a tree of data -/
inductive D where
  | non | bl (b : Bool) | int (i : Int) | str (x : Str)
  | lst (ds : List D) | tup (ds : List D)
  | dic (ks : List Key) (ds : List D)
  | ins (c : Str) (fs : List Str) (ds : List D)
  | exc (c : Str) (a : Option D) (p : Addr) (oe : Obj)
  | sto
  | scr (ns : List Int)

/-- an error: its class by name, the value it bears -/
structure Er where
  c : Str
  a : Option D

/-- the name of the field an error of the class bears -/
def fieldOf (c : Str) : Str :=
  if c = "BadText" then "position" else if c = "Spent" then "allowed" else if c = "TooFewPlaces" then "places_found"
  else if c = "WrongPaper" then "paper_of" else if c = "UnknownName" then "missing" else if c = "NameTaken" then "taken" else "argument"

mutual
/-- v is d, told by the still part B -/
inductive Rp (K : PySem.W.Frag) (so : Option Addr) (B : Hp) : V → D → Prop
  | non : Rp K so B .non .non
  | bl (b : Bool) : Rp K so B (.bl b) (.bl b)
  | int (i : Int) : Rp K so B (.int i) (.int i)
  | str (x : Str) : Rp K so B (.str x) (.str x)
  | lst {p : Addr} {vs : List V} {ds : List D} : B p = some (.lst vs) → Rps K so B vs ds → Rp K so B (.ref p) (.lst ds)
  | tup {p : Addr} {vs : List V} {ds : List D} : SqT K B p vs → Rps K so B vs ds → Rp K so B (.ref p) (.tup ds)
  | dic {p : Addr} {ks : List Key} {vs : List V} {ds : List D} : B p = some (.dK (ks.zip vs)) → ks.length = vs.length → Rps K so B vs ds → Rp K so B (.ref p) (.dic ks ds)
  | ins {p dx : Addr} {c : Str} {fs : List Str} {vs : List V} {ds : List D} : B p = some (.ins (He.ga K c) dx (fs.zip vs)) → fs.length = vs.length → Rps K so B vs ds → Rp K so B (.ref p) (.ins c fs ds)
  | exn {p : Addr} {oe : Obj} {c : Str} : L2N.Zn (.ref (He.ga K c)) none oe → (∃ vs, oe.data = .fields vs) → Rp K so B (.ref p) (.exc c none p oe)
  | exa {p dd : Addr} {oe : Obj} {c : Str} {v : V} {a : D} : L2N.Zn (.ref (He.ga K c)) (some dd) oe → (∃ vs, oe.data = .fields vs) →
      B dd = some (.xd [(fieldOf c, v)]) → Rp K so B v a → Rp K so B (.ref p) (.exc c (some a) p oe)
  | sto {s : Addr} : so = some s → Rp K so B (.ref s) .sto
  | scr {p : Addr} {ns : List Int} : SqL K B p (ns.map V.int) → Rp K so B (.ref p) (.scr ns)
inductive Rps (K : PySem.W.Frag) (so : Option Addr) (B : Hp) : List V → List D → Prop
  | nil : Rps K so B [] []
  | cons {v : V} {vs : List V} {d : D} {ds : List D} : Rp K so B v d → Rps K so B vs ds → Rps K so B (v :: vs) (d :: ds)
end

theorem sqT_same {K : PySem.W.Frag} {H H' : Hp} {a : Addr} {xs : List V} (e : Same H H') (h : SqT K H a xs) : SqT K H' a xs := by
  rcases h with (h | ⟨o, h⟩) | h
  · exact .inl (.inl (e _ _ h))
  · exact .inl (.inr ⟨o, e _ _ h⟩)
  · exact .inr h

section
variable {K : PySem.W.Frag} {so : Option Addr} {B B' H H' : Hp}
mutual
theorem Rp.mono (e : Same B B') : ∀ {v : V} {d : D}, Rp K so B v d → Rp K so B' v d
  | _, _, .non => .non
  | _, _, .bl b => .bl b
  | _, _, .int i => .int i
  | _, _, .str x => .str x
  | _, _, .lst h r => .lst (e _ _ h) (Rps.mono e r)
  | _, _, .tup h r => .tup (sqT_same e h) (Rps.mono e r)
  | _, _, .dic h l r => .dic (e _ _ h) l (Rps.mono e r)
  | _, _, .ins h l r => .ins (e _ _ h) l (Rps.mono e r)
  | _, _, .exn z q => .exn z q
  | _, _, .exa z q x r => .exa z q (e _ _ x) (Rp.mono e r)
  | _, _, .sto h => .sto h
  | _, _, .scr h => .scr (e.seq h)
theorem Rps.mono (e : Same B B') : ∀ {vs : List V} {ds : List D}, Rps K so B vs ds → Rps K so B' vs ds
  | _, _, .nil => .nil
  | _, _, .cons h r => .cons (Rp.mono e h) (Rps.mono e r)
end
theorem Rps.len : ∀ {vs : List V} {ds : List D}, Rps K so B vs ds → vs.length = ds.length
  | _, _, .nil => rfl
  | _, _, .cons _ r => by rw [List.length_cons, List.length_cons, Rps.len r]
theorem Rps.get : ∀ {vs : List V} {ds : List D} {i : Nat} {d : D}, Rps K so B vs ds → ds[i]? = some d → ∃ v, vs[i]? = some v ∧ Rp K so B v d
  | _, _, _, _, .nil, e => by simp at e
  | _, _, 0, _, .cons h _, e => by simp at e; subst e; exact ⟨_, rfl, h⟩
  | _, _, i + 1, d, .cons _ r, e => by
    obtain ⟨v, h1, h2⟩ := Rps.get (i := i) (d := d) r (by simpa using e)
    exact ⟨v, by simpa using h1, h2⟩
theorem Rps.append : ∀ {vs vs' : List V} {ds ds' : List D}, Rps K so B vs ds → Rps K so B vs' ds' → Rps K so B (vs ++ vs') (ds ++ ds')
  | _, _, _, _, .nil, s => s
  | _, _, _, _, .cons h r, s => .cons h (Rps.append r s)
theorem Rps.set {v : V} {d : D} (h : Rp K so B v d) : ∀ {vs : List V} {ds : List D} (i : Nat), Rps K so B vs ds → Rps K so B (vs.set i v) (ds.set i d)
  | _, _, _, .nil => .nil
  | _, _, 0, .cons _ r => .cons h r
  | _, _, i + 1, .cons q r => .cons q (Rps.set h i r)
theorem Rps.take : ∀ {vs : List V} {ds : List D} (n : Nat), Rps K so B vs ds → Rps K so B (vs.take n) (ds.take n)
  | _, _, 0, _ => .nil
  | _, _, _ + 1, .nil => .nil
  | _, _, n + 1, .cons h r => .cons h (Rps.take n r)
theorem Rps.drop : ∀ {vs : List V} {ds : List D} (n : Nat), Rps K so B vs ds → Rps K so B (vs.drop n) (ds.drop n)
  | _, _, 0, r => r
  | _, _, _ + 1, .nil => .nil
  | _, _, n + 1, .cons _ r => Rps.drop n r
theorem Rps.reverse : ∀ {vs : List V} {ds : List D}, Rps K so B vs ds → Rps K so B vs.reverse ds.reverse
  | _, _, .nil => .nil
  | _, _, .cons h r => by
    rw [List.reverse_cons, List.reverse_cons]
    exact Rps.append (Rps.reverse r) (.cons h .nil)
theorem Rps.ints : ∀ {vs : List V} (ns : List Int), vs = ns.map V.int → Rps K so B vs (ns.map D.int)
  | _, [], e => by subst e; exact .nil
  | _, n :: ns, e => by subst e; exact .cons (.int n) (Rps.ints ns rfl)
theorem Rps.ints_of : ∀ {vs : List V} {ns : List Int}, Rps K so B vs (ns.map D.int) → vs = ns.map V.int
  | _, [], h => by cases h; rfl
  | _, n :: ns, h => by
    cases h with
    | cons h1 h2 => cases h1; rw [Rps.ints_of h2]; rfl

/-! ### no list within -/
mutual
def NoL : D → Bool
  | .lst _ => false
  | .dic _ ds => NoLs ds
  | .tup ds => NoLs ds
  | .ins _ _ ds => NoLs ds
  | .exc _ _ _ _ => false
  | .sto => false
  | .scr _ => false
  | _ => true
def NoLs : List D → Bool
  | [] => true
  | d :: ds => NoL d && NoLs ds
end

/-! ### a tree whose lists are all one's own: F their places -/
mutual
inductive Dpr (K : PySem.W.Frag) (so : Option Addr) (B H : Hp) : V → D → List Addr → Prop
  | leaf {v : V} {d : D} : Rp K so B v d → NoL d = true → Dpr K so B H v d []
  | lst {p : Addr} {vs : List V} {ds : List D} {F : List Addr} : H p = some (.lst vs) → Dprs K so B H vs ds F → Dpr K so B H (.ref p) (.lst ds) (p :: F)
  | tup {p : Addr} {vs : List V} {ds : List D} {F : List Addr} : SqT K B p vs → Dprs K so B H vs ds F → Dpr K so B H (.ref p) (.tup ds) F
inductive Dprs (K : PySem.W.Frag) (so : Option Addr) (B H : Hp) : List V → List D → List Addr → Prop
  | nil : Dprs K so B H [] [] []
  | cons {v : V} {vs : List V} {d : D} {ds : List D} {F G : List Addr} : Dpr K so B H v d F → Dprs K so B H vs ds G → Dprs K so B H (v :: vs) (d :: ds) (F ++ G)
end
mutual
theorem Dpr.mono (e : Same B B') : ∀ {v : V} {d : D} {F : List Addr}, (∀ p ∈ F, ∀ o, H p = some o → H' p = some o) → Dpr K so B H v d F → Dpr K so B' H' v d F
  | _, _, _, _, .leaf h n => .leaf (h.mono e) n
  | _, _, _, k, .lst h r => .lst (k _ List.mem_cons_self _ h) (Dprs.mono e (fun p hp => k p (List.mem_cons_of_mem _ hp)) r)
  | _, _, _, k, .tup h r => .tup (sqT_same e h) (Dprs.mono e k r)
theorem Dprs.mono (e : Same B B') : ∀ {vs : List V} {ds : List D} {F : List Addr}, (∀ p ∈ F, ∀ o, H p = some o → H' p = some o) → Dprs K so B H vs ds F → Dprs K so B' H' vs ds F
  | _, _, _, _, .nil => .nil
  | _, _, _, k, .cons h r => .cons (Dpr.mono e (fun p hp => k p (List.mem_append_left _ hp)) h) (Dprs.mono e (fun p hp => k p (List.mem_append_right _ hp)) r)
end
mutual
theorem Dpr.still (e : Same B B') : ∀ {v : V} {d : D} {F : List Addr}, (∀ p ∈ F, ∀ xs, H p = some (.lst xs) → B' p = some (.lst xs)) → Dpr K so B H v d F → Rp K so B' v d
  | _, _, _, _, .leaf h n => h.mono e
  | _, _, _, k, .lst h r => .lst (k _ List.mem_cons_self _ h) (Dprs.still e (fun p hp => k p (List.mem_cons_of_mem _ hp)) r)
  | _, _, _, k, .tup h r => .tup (sqT_same e h) (Dprs.still e k r)
theorem Dprs.still (e : Same B B') : ∀ {vs : List V} {ds : List D} {F : List Addr}, (∀ p ∈ F, ∀ xs, H p = some (.lst xs) → B' p = some (.lst xs)) → Dprs K so B H vs ds F → Rps K so B' vs ds
  | _, _, _, _, .nil => .nil
  | _, _, _, k, .cons h r => .cons (Dpr.still e (fun p hp => k p (List.mem_append_left _ hp)) h) (Dprs.still e (fun p hp => k p (List.mem_append_right _ hp)) r)
end
mutual
theorem Dpr.lists : ∀ {v : V} {d : D} {F : List Addr}, Dpr K so B H v d F → ∀ p ∈ F, ∃ xs, H p = some (.lst xs)
  | _, _, _, .leaf h n, p, hp => by cases hp
  | _, _, _, .lst h r, p, hp => by
    rcases List.mem_cons.mp hp with rfl | hp
    · exact ⟨_, h⟩
    · exact Dprs.lists r p hp
  | _, _, _, .tup h r, p, hp => Dprs.lists r p hp
theorem Dprs.lists : ∀ {vs : List V} {ds : List D} {F : List Addr}, Dprs K so B H vs ds F → ∀ p ∈ F, ∃ xs, H p = some (.lst xs)
  | _, _, _, .nil, p, hp => by cases hp
  | _, _, _, .cons h r, p, hp => by
    rcases List.mem_append.mp hp with hp | hp
    · exact Dpr.lists h p hp
    · exact Dprs.lists r p hp
end
end

/-! ### slots -/
/-- what is known of a name's value: nothing; a still value; a list of one's own, its items still; a value whose lists are all one's own -/
inductive Sl where
  | un
  | sh (d : D)
  | ow (p : Addr) (ds : List D)
  | dp (F : List Addr) (d : D)
def Sl.foot : Sl → List Addr
  | .ow p _ => [p]
  | .dp F _ => F
  | _ => []
def Sl.dat : Sl → D
  | .un => .non
  | .sh d => d
  | .ow _ ds => .lst ds
  | .dp _ d => d
def RepS (K : PySem.W.Frag) (so : Option Addr) (B H : Hp) : Option V → Sl → Prop
  | _, .un => True
  | some v, .sh d => Rp K so B v d
  | some v, .ow p ds => v = .ref p ∧ ∃ vs, H p = some (.lst vs) ∧ Rps K so B vs ds
  | some v, .dp F d => Dpr K so B H v d F
  | none, _ => False

/-- the store of draws, as it stands -/
def StoreAt (K : PySem.W.Frag) (B H : Hp) (s : Addr) : Prop :=
  ∃ (l : Addr) (ns : List Int) (i h m c : Int), H s = some (.lst [.ref l, .int i, .int h, .int m, .int c]) ∧ SqL K B l (ns.map V.int) ∧ 0 ≤ i ∧ 0 ≤ h
/-- what a body works over: the written part, the store, the still part and the heap at the entry, the wish about errors -/
structure Gx where
  K : PySem.W.Frag
  so : Option Addr
  B0 : Hp
  H0 : Hp
  EX : L2.St → XK
abbrev Roots := List (Option V × Sl)
def feet (R : Roots) : List Addr := R.flatMap fun r => r.2.foot
structure Rel (G : Gx) (R : Roots) (H B : Hp) : Prop where
  lo : Same G.B0 B
  hi : Same B H
  fr : ∀ a o, G.H0 a = some o → G.so ≠ some a → H a = some o
  nw : ∀ a xs, B a = some xs → G.H0 a ≠ none → G.B0 a ≠ none
  rep : ∀ r ∈ R, RepS G.K G.so B H r.1 r.2
  nd : (feet R).Nodup
  ap : ∀ p ∈ feet R, B p = none ∧ G.H0 p = none ∧ G.so ≠ some p
  st : ∀ s, G.so = some s → B s = none ∧ StoreAt G.K B H s
def RelE (G : Gx) (R : Roots) (H : Hp) : Prop := ∃ B, Rel G R H B
theorem feet_nil : feet [] = [] := rfl
theorem feet_cons (r : Option V × Sl) (R : Roots) : feet (r :: R) = r.2.foot ++ feet R := rfl
theorem feet_append (R R' : Roots) : feet (R ++ R') = feet R ++ feet R' := by unfold feet; exact List.flatMap_append
theorem feet_one (r : Option V × Sl) : feet [r] = r.2.foot := by rw [feet_cons, feet_nil, List.append_nil]
theorem mem_feet {R : Roots} {r : Option V × Sl} {p : Addr} (hr : r ∈ R) (hp : p ∈ r.2.foot) : p ∈ feet R := List.mem_flatMap.mpr ⟨r, hr, hp⟩
theorem RepS.lists {K : PySem.W.Frag} {so : Option Addr} {B H : Hp} {v : Option V} {x : Sl} (h : RepS K so B H v x) : ∀ p ∈ x.foot, ∃ xs, H p = some (.lst xs) := by
  intro p hp
  cases x with
  | un => cases hp
  | sh d => cases hp
  | ow q ds =>
    have e : p = q := by simpa [Sl.foot] using hp
    subst e
    cases v with
    | none => exact h.elim
    | some v => obtain ⟨_, vs, h2, _⟩ := h; exact ⟨vs, h2⟩
  | dp F d =>
    cases v with
    | none => exact h.elim
    | some v => exact Dpr.lists (show Dpr K so B H v d F from h) p hp
theorem RepS.mono {K : PySem.W.Frag} {so : Option Addr} {B B' H H' : Hp} {v : Option V} {x : Sl} (e : Same B B') (k : ∀ p ∈ x.foot, ∀ o, H p = some o → H' p = some o) (h : RepS K so B H v x) : RepS K so B' H' v x := by
  cases x with
  | un => cases v <;> trivial
  | sh d =>
    cases v with
    | none => exact h.elim
    | some v => exact Rp.mono e (show Rp K so B v d from h)
  | ow q ds =>
    cases v with
    | none => exact h.elim
    | some v => obtain ⟨h1, vs, h2, h3⟩ := h; exact ⟨h1, vs, k q (by simp [Sl.foot]) _ h2, h3.mono e⟩
  | dp F d =>
    cases v with
    | none => exact h.elim
    | some v => exact Dpr.mono e k (show Dpr K so B H v d F from h)
theorem StoreAt.mono {K : PySem.W.Frag} {B B' H H' : Hp} {s : Addr} (e : Same B B') (k : H' s = H s) (h : StoreAt K B H s) : StoreAt K B' H' s := by
  obtain ⟨l, ns, i, hh, m, c, h1, h2, h3⟩ := h
  exact ⟨l, ns, i, hh, m, c, k.trans h1, e.seq h2, h3⟩

section
variable {G : Gx} {R R' : Roots} {H H' B B' : Hp}
theorem Rel.foot_some (h : Rel G R H B) {p : Addr} (hp : p ∈ feet R) : ∃ xs, H p = some (.lst xs) := by
  obtain ⟨r, hr, hq⟩ := List.mem_flatMap.mp hp
  exact (h.rep r hr).lists p hq
theorem Rel.store_some (h : Rel G R H B) {s : Addr} (e : G.so = some s) : ∃ xs, H s = some (.lst xs) := by
  obtain ⟨_, l, ns, i, hh, m, c, h1, _⟩ := h.st s e
  exact ⟨_, h1⟩
/-- fewer roots, in another order -/
theorem Rel.sub (h : Rel G R H B) (hs : ∀ r ∈ R', r ∈ R) (hn : (feet R').Nodup) : Rel G R' H B :=
  ⟨h.lo, h.hi, h.fr, h.nw, fun r hr => h.rep r (hs r hr), hn, fun p hp => by
    obtain ⟨r, hr, hq⟩ := List.mem_flatMap.mp hp
    exact h.ap p (mem_feet (hs r hr) hq), h.st⟩
theorem Rel.perm (h : Rel G R H B) (hs : ∀ r ∈ R', r ∈ R) (hp : (feet R').Perm (feet R)) : Rel G R' H B := h.sub hs (hp.nodup_iff.mpr h.nd)
theorem Rel.sublist (h : Rel G R H B) (hs : R'.Sublist R) : Rel G R' H B := h.sub (fun r hr => hs.subset hr) (List.Nodup.sublist (by
  unfold feet
  clear h
  induction hs with
  | slnil => exact List.Sublist.refl _
  | cons a _ ih => rw [List.flatMap_cons]; exact ih.trans (List.sublist_append_right _ _)
  | cons_cons a _ ih => rw [List.flatMap_cons, List.flatMap_cons]; exact List.Sublist.append (List.Sublist.refl _) ih) h.nd)
/-- a still thing more -/
theorem Rel.addSh (h : Rel G R H B) {v : V} {d : D} (q : Rp G.K G.so B v d) : Rel G (R ++ [(some v, .sh d)]) H B :=
  ⟨h.lo, h.hi, h.fr, h.nw, fun r hr => by
    rcases List.mem_append.mp hr with hr | hr
    · exact h.rep r hr
    · have e : r = (some v, .sh d) := by simpa using hr
      subst e
      exact q, by rw [feet_append, feet_one]; simpa [Sl.foot] using h.nd, fun p hp => by
    rw [feet_append, feet_one] at hp
    exact h.ap p (by simpa [Sl.foot] using hp), h.st⟩
/-- the still part and the heap grow -/
theorem Rel.grow (h : Rel G R H B) (eB : Same B B') (eH : Same H H') (hi : Same B' H') (nw : ∀ a xs, B' a = some xs → B a = none → H a = none)
    (nf : ∀ p, H p ≠ none → (∃ xs, H p = some (.lst xs)) → B p = none → B' p = none) : Rel G R H' B' :=
  ⟨h.lo.trans eB, hi, fun a o e n => eH a o (h.fr a o e n), fun a xs e n => by
    cases q : B a with
    | none =>
      by_cases hs : G.so = some a
      · obtain ⟨x, hx⟩ := h.store_some hs
        rw [nw a xs e q] at hx
        cases hx
      · cases z : G.H0 a with
        | none => exact absurd z n
        | some o =>
          have := h.fr a o z hs
          rw [nw a xs e q] at this
          cases this
    | some o =>
      have e2 := eB a o q
      rw [e] at e2
      cases e2
      exact h.nw a xs q n, fun r hr => (h.rep r hr).mono eB (fun p _ o q => eH p o q), h.nd, fun p hp => by
    obtain ⟨a1, a2, a3⟩ := h.ap p hp
    obtain ⟨xs, hx⟩ := h.foot_some hp
    exact ⟨nf p (by rw [hx]; exact Option.some_ne_none _) ⟨xs, hx⟩ a1, a2, a3⟩, fun s e => by
    obtain ⟨s1, s2⟩ := h.st s e
    obtain ⟨xs, hx⟩ := h.store_some e
    exact ⟨nf s (by rw [hx]; exact Option.some_ne_none _) ⟨xs, hx⟩ s1, s2.mono eB ((eH s _ hx).trans hx.symm)⟩⟩
theorem same_upd {H : Hp} {p : Addr} {o : HO} (h : H p = none) : Same H (upd H p o) := fun b u e => by
  rw [upd_ne (ne_of_none e h)]
  exact e
theorem Rel.free (h : Rel G R H B) {p : Addr} (e : H p = none) : B p = none := h.hi.free e
/-- a new still object at p -/
theorem Rel.newB (h : Rel G R H B) {p : Addr} {o : HO} (e : H p = none) : Rel G R (upd H p o) (upd B p o) := by
  refine h.grow (same_upd (h.free e)) (same_upd e) (fun b u q => ?_) (fun a xs q n => ?_) (fun b q _ n => ?_)
  · by_cases hb : b = p
    · subst hb; rw [upd_same] at q ⊢; exact q
    · rw [upd_ne hb] at q ⊢; exact h.hi b u q
  · by_cases ha : a = p
    · subst ha; exact e
    · rw [upd_ne ha, n] at q; cases q
  · by_cases hb : b = p
    · subst hb; exact absurd e q
    · rw [upd_ne hb]; exact n
/-- a new object at p that is not told still -/
theorem Rel.newH (h : Rel G R H B) {p : Addr} {o : HO} (e : H p = none) : Rel G R (upd H p o) B :=
  h.grow (Same.refl _) (same_upd e) (h.hi.trans (same_upd e)) (fun a xs q n => by rw [n] at q; cases q) fun b q _ n => n
/-- a new list of one's own, its items still -/
theorem Rel.addOw (h : Rel G R H B) {p : Addr} {vs : List V} {ds : List D} (e : H p = none) (q : Rps G.K G.so B vs ds) : Rel G (R ++ [(some (.ref p), .ow p ds)]) (upd H p (.lst vs)) B := by
  have h1 := h.newH (o := .lst vs) e
  have nf : p ∉ feet R := fun hp => by
    obtain ⟨xs, hx⟩ := h.foot_some hp
    rw [e] at hx; cases hx
  refine ⟨h1.lo, h1.hi, h1.fr, h1.nw, fun r hr => ?_, ?_, fun b hb => ?_, h1.st⟩
  · rcases List.mem_append.mp hr with hr | hr
    · exact h1.rep r hr
    · have e2 : r = (some (.ref p), .ow p ds) := by simpa using hr
      subst e2
      exact ⟨rfl, vs, upd_same, q⟩
  · rw [feet_append, feet_one]
    exact List.nodup_append.mpr ⟨h.nd, by simp [Sl.foot], fun a ha b hb => by
      have e2 : b = p := by simpa [Sl.foot] using hb
      subst e2
      exact fun z => nf (z ▸ ha)⟩
  · rw [feet_append, feet_one] at hb
    rcases List.mem_append.mp hb with hb | hb
    · exact h1.ap b hb
    · have e2 : b = p := by simpa [Sl.foot] using hb
      subst e2
      refine ⟨h.free e, ?_, fun z => ?_⟩
      · cases z : G.H0 b with
        | none => rfl
        | some o =>
          by_cases hs : G.so = some b
          · obtain ⟨x, hx⟩ := h.store_some hs
            rw [e] at hx; cases hx
          · have := h.fr b o z hs
            rw [e] at this; cases this
      · obtain ⟨x, hx⟩ := h.store_some z
        rw [e] at hx; cases hx

/-- two heaps' still parts, the second where the first says nothing -/
def join (B C : Hp) : Hp := fun a => match B a with | some o => some o | none => C a
theorem join_l (B C : Hp) : Same B (join B C) := fun a o e => by unfold join; rw [e]
theorem join_r {B C : Hp} {a : Addr} (h : B a = none) : join B C a = C a := by unfold join; rw [h]
/-- a part of a heap -/
def part (H : Hp) (F : List Addr) : Hp := fun a => if a ∈ F then H a else none
theorem part_in {H : Hp} {F : List Addr} {a : Addr} (h : a ∈ F) : part H F a = H a := if_pos h
theorem part_out {H : Hp} {F : List Addr} {a : Addr} (h : a ∉ F) : part H F a = none := if_neg h
theorem feet_split {R₁ R₂ : Roots} {r : Option V × Sl} : feet (R₁ ++ r :: R₂) = feet R₁ ++ (r.2.foot ++ feet R₂) := by rw [feet_append, feet_cons]
/-- a root's lists are told still -/
theorem Rel.freeze {R₁ R₂ : Roots} {v : V} {x : Sl} (hx : x ≠ .un) (h : Rel G (R₁ ++ (some v, x) :: R₂) H B) : Rel G (R₁ ++ (some v, .sh x.dat) :: R₂) H (join B (part H x.foot)) := by
  have hmem : (some v, x) ∈ R₁ ++ (some v, x) :: R₂ := List.mem_append_right _ List.mem_cons_self
  have hnd := h.nd
  rw [feet_split] at hnd
  have hB : ∀ p ∈ x.foot, B p = none := fun p hp => (h.ap p (mem_feet hmem hp)).1
  have eq : ∀ a, a ∉ x.foot → join B (part H x.foot) a = B a := fun a ha => by
    unfold join
    rw [part_out ha]
    cases B a <;> rfl
  have ein : ∀ p, p ∈ x.foot → join B (part H x.foot) p = H p := fun p hp => by rw [join_r (hB p hp), part_in hp]
  have dis : ∀ p, p ∈ x.foot → p ∉ feet R₁ ∧ p ∉ feet R₂ := fun p hp => by
    obtain ⟨_, h2, h3⟩ := List.nodup_append.mp hnd
    obtain ⟨_, _, h4⟩ := List.nodup_append.mp h2
    exact ⟨fun z => h3 p z p (List.mem_append_left _ hp) rfl, fun z => h4 p hp p z rfl⟩
  refine ⟨h.lo.trans (join_l _ _), fun a o e => ?_, h.fr, fun a xs e n => ?_, fun r hr => ?_, ?_, fun p hp => ?_, fun s e => ?_⟩
  · by_cases ha : a ∈ x.foot
    · rw [ein a ha] at e; exact e
    · rw [eq a ha] at e; exact h.hi a o e
  · by_cases ha : a ∈ x.foot
    · exact absurd (h.ap a (mem_feet hmem ha)).2.1 n
    · rw [eq a ha] at e; exact h.nw a xs e n
  · rcases List.mem_append.mp hr with hr | hr
    · exact (h.rep r (List.mem_append_left _ hr)).mono (join_l _ _) fun p _ o e => e
    · rcases List.mem_cons.mp hr with rfl | hr
      · have q := h.rep _ hmem
        show Rp G.K G.so _ v x.dat
        cases x with
        | un => exact absurd rfl hx
        | sh d => exact Rp.mono (join_l _ _) (show Rp G.K G.so B v d from q)
        | ow p ds =>
          obtain ⟨e, vs, h1, h2⟩ : v = .ref p ∧ ∃ vs, H p = some (.lst vs) ∧ Rps G.K G.so B vs ds := q
          rw [e]
          exact .lst (by rw [ein p (by simp [Sl.foot])]; exact h1) (h2.mono (join_l _ _))
        | dp F d => exact Dpr.still (join_l _ _) (fun p hp xs e => by rw [ein p hp]; exact e) (show Dpr G.K G.so B H v d F from q)
      · exact (h.rep r (List.mem_append_right _ (List.mem_cons_of_mem _ hr))).mono (join_l _ _) fun p _ o e => e
  · rw [feet_split]
    refine hnd.sublist (List.Sublist.append (List.Sublist.refl _) ?_)
    show (([] : List Addr) ++ feet R₂).Sublist _
    exact List.sublist_append_right _ _
  · rw [feet_split] at hp
    have hp' : p ∈ feet R₁ ∨ p ∈ feet R₂ := by simpa [Sl.foot] using hp
    have hn : p ∉ x.foot := fun z => by
      obtain ⟨d1, d2⟩ := dis p z
      rcases hp' with q | q
      · exact d1 q
      · exact d2 q
    rw [eq p hn]
    refine h.ap p ?_
    rw [feet_split]
    rcases hp' with q | q
    · exact List.mem_append_left _ q
    · exact List.mem_append_right _ (List.mem_append_right _ q)
  · obtain ⟨s1, s2⟩ := h.st s e
    have hn : s ∉ x.foot := fun z => (h.ap s (mem_feet hmem z)).2.2 e
    exact ⟨by rw [eq s hn]; exact s1, s2.mono (join_l _ _) rfl⟩
/-- behind a call that was handed still things of B -/
theorem Rel.after {E : L2.St → XK} {r : Option V × Sl} (h : Rel G R H B) (k : Rel ⟨G.K, G.so, B, H, E⟩ [r] H' B') : Rel G (R ++ [r]) H' B' := by
  have keepF : ∀ p ∈ feet R, H' p = H p := fun p hp => by
    obtain ⟨xs, hx⟩ := h.foot_some hp
    rw [hx]
    exact k.fr p _ hx (h.ap p hp).2.2
  have bn : ∀ p ∈ feet R, B' p = none := fun p hp => by
    obtain ⟨xs, hx⟩ := h.foot_some hp
    cases q : B' p with
    | none => rfl
    | some o =>
      have e := k.hi p o q
      rw [keepF p hp, hx] at e
      cases e
      exact absurd (h.ap p hp).1 (k.nw p _ q (by show H p ≠ none; rw [hx]; exact Option.some_ne_none _))
  have newF : ∀ p ∈ r.2.foot, B' p = none ∧ H p = none ∧ G.so ≠ some p := fun p hp => k.ap p (mem_feet List.mem_cons_self hp)
  refine ⟨h.lo.trans k.lo, k.hi, fun a o e n => k.fr a o (h.fr a o e n) n, fun a xs e n => ?_, fun q hq => ?_, ?_, fun p hp => ?_, k.st⟩
  · by_cases hs : G.so = some a
    · have := (k.st a hs).1
      rw [e] at this; cases this
    · cases z : G.H0 a with
      | none => exact absurd z n
      | some o =>
        have e1 := h.fr a o z hs
        have e2 : B a ≠ none := k.nw a xs e (by show H a ≠ none; rw [e1]; exact Option.some_ne_none _)
        cases q : B a with
        | none => exact absurd q e2
        | some u =>
          have e3 := k.lo a u q
          rw [e] at e3
          cases e3
          exact h.nw a xs q n
  · rcases List.mem_append.mp hq with hq | hq
    · exact (h.rep q hq).mono k.lo fun p hp o e => by rw [keepF p (mem_feet hq hp)]; exact e
    · exact k.rep q hq
  · rw [feet_append]
    refine List.nodup_append.mpr ⟨h.nd, k.nd, fun a ha b hb z => ?_⟩
    subst z
    obtain ⟨xs, hx⟩ := h.foot_some ha
    have := (newF a (by rw [feet_one] at hb; exact hb)).2.1
    rw [hx] at this; cases this
  · rw [feet_append] at hp
    rcases List.mem_append.mp hp with hp | hp
    · exact ⟨bn p hp, (h.ap p hp).2.1, (h.ap p hp).2.2⟩
    · obtain ⟨n1, n2, n3⟩ := newF p (by rw [feet_one] at hp; exact hp)
      refine ⟨n1, ?_, n3⟩
      cases z : G.H0 p with
      | none => rfl
      | some o =>
        have e1 := h.fr p o z n3
        rw [n2] at e1; cases e1
/-- .. where an error came out -/
theorem Rel.after0 {E : L2.St → XK} (h : Rel G R H B) (k : Rel ⟨G.K, G.so, B, H, E⟩ [] H' B') : Rel G R H' B' := by
  have k2 : Rel ⟨G.K, G.so, B, H, E⟩ [(none, .un)] H' B' := ⟨k.lo, k.hi, k.fr, k.nw, fun r hr => by
    have e : r = (none, .un) := by simpa using hr
    subst e
    trivial, k.nd, k.ap, k.st⟩
  exact (h.after k2).sublist (List.sublist_append_left _ _)
/-- at a def's entry -/
theorem Rel.entry {K : PySem.W.Frag} {so : Option Addr} {E : L2.St → XK} (e : Same B H) (hr : ∀ r ∈ R, RepS K so B H r.1 r.2) (hf : feet R = []) (st : ∀ s, so = some s → B s = none ∧ StoreAt K B H s) : Rel ⟨K, so, B, H, E⟩ R H B :=
  ⟨Same.refl _, e, fun _ _ q _ => q, fun a xs q _ => by show B a ≠ none; rw [q]; exact Option.some_ne_none _, hr, by rw [hf]; exact List.nodup_nil, fun p hp => by rw [hf] at hp; exact (List.not_mem_nil hp).elim, st⟩
/-- a list of one's own is changed -/
theorem Rel.change {R₁ R₂ : Roots} {v : V} {p : Addr} {ds es : List D} {ws : List V} (h : Rel G (R₁ ++ (some v, .ow p ds) :: R₂) H B) (q : Rps G.K G.so B ws es) :
    Rel G (R₁ ++ (some v, .ow p es) :: R₂) (upd H p (.lst ws)) B := by
  have hmem : (some v, Sl.ow p ds) ∈ R₁ ++ (some v, .ow p ds) :: R₂ := List.mem_append_right _ List.mem_cons_self
  obtain ⟨a1, a2, a3⟩ := h.ap p (mem_feet hmem (by simp [Sl.foot]))
  have hnd := h.nd
  rw [feet_split] at hnd
  have dis : p ∉ feet R₁ ∧ p ∉ feet R₂ := by
    obtain ⟨_, h2, h3⟩ := List.nodup_append.mp hnd
    obtain ⟨_, _, h4⟩ := List.nodup_append.mp h2
    exact ⟨fun z => h3 p z p (List.mem_append_left _ (by simp [Sl.foot])) rfl, fun z => h4 p (by simp [Sl.foot]) p z rfl⟩
  have other : ∀ {r : Option V × Sl}, RepS G.K G.so B H r.1 r.2 → p ∉ r.2.foot → RepS G.K G.so B (upd H p (.lst ws)) r.1 r.2 := fun {r} hr hp =>
    hr.mono (Same.refl _) fun b hb o e => by
      have nb : b ≠ p := fun z => by subst z; exact hp hb
      rw [upd_ne nb]; exact e
  have feq : feet (R₁ ++ (some v, Sl.ow p es) :: R₂) = feet (R₁ ++ (some v, Sl.ow p ds) :: R₂) := by rw [feet_split, feet_split]; rfl
  refine ⟨h.lo, fun a o e => ?_, fun a o e n => ?_, h.nw, fun r hr => ?_, by rw [feq]; exact h.nd, by rw [feq]; exact h.ap, fun s e => ?_⟩
  · rw [upd_ne (ne_of_none e a1)]; exact h.hi a o e
  · rw [upd_ne (ne_of_none e a2)]; exact h.fr a o e n
  · rcases List.mem_append.mp hr with hr | hr
    · exact other (h.rep r (List.mem_append_left _ hr)) fun z => dis.1 (mem_feet hr z)
    · rcases List.mem_cons.mp hr with rfl | hr
      · obtain ⟨e, _⟩ : v = .ref p ∧ _ := h.rep _ hmem
        exact ⟨e, ws, upd_same, q⟩
      · exact other (h.rep r (List.mem_append_right _ (List.mem_cons_of_mem _ hr))) fun z => dis.2 (mem_feet hr z)
  · obtain ⟨s1, s2⟩ := h.st s e
    have ne : s ≠ p := fun z => a3 (z ▸ e)
    exact ⟨s1, s2.mono (Same.refl _) (upd_ne ne)⟩
end
end DL
set_option Elab.async false
set_option maxRecDepth 100000
set_option maxHeartbeats 4000000
set_option linter.unusedVariables false
/-! data-level layer, part b: readings of expressions -/
namespace DL
open PySem PySem.Spec PyProof.Rows L2

abbrev St := L2.St
abbrev DEnv := List Sl
abbrev EC := Er → DEnv → Prop
abbrev DT (α : Type) := DEnv → (α → DEnv → Prop) → EC → Prop
def Mono {α : Type} (w : DT α) : Prop := ∀ ⦃ρ : DEnv⦄ ⦃Q Q' : α → DEnv → Prop⦄ ⦃E E' : EC⦄, (∀ a ρ', Q a ρ' → Q' a ρ') → (∀ e ρ', E e ρ' → E' e ρ') → w ρ Q E → w ρ Q' E'

/-- an error as it lies -/
def RepX (K : PySem.W.Frag) (so : Option Addr) (B : Hp) (cls : Value) (d : Option Addr) (e : Er) : Prop :=
  cls = .ref (He.ga K e.c) ∧ match e.a with
    | none => d = none
    | some a => ∃ dd v, d = some dd ∧ B dd = some (.xd [(fieldOf e.c, v)]) ∧ Rp K so B v a
/-- what is wanted of an error: at the slots as they stand, over the roots τ -/
def xw (G : Gx) (τ : Roots) : EC := fun e ρ => ∀ (σ : St) (cls : Value) (d : Option Addr) (H B : Hp), ρ.length = σ.length → Rel G (σ.zip ρ ++ τ) H B → RepX G.K G.so B cls d e → G.EX σ cls d H
theorem xw_app {G : Gx} {τ t : Roots} (e : Er) (ρ : DEnv) (h : xw G τ e ρ) : xw G (τ ++ t) e ρ := fun σ cls d H B l hr hx =>
  h σ cls d H B l (hr.sublist (by rw [← List.append_assoc]; exact List.sublist_append_left _ _)) hx

/-- the state by data: the names' slots ρ over σ, further roots τ -/
structure At (G : Gx) (σ : St) (ρ : DEnv) (τ : Roots) (H : Hp) : Prop where
  len : ρ.length = σ.length
  rel : RelE G (σ.zip ρ ++ τ) H

def tD (G : Gx) (w : DT Sl) : TE := fun σ H Q => ∃ ρ τ, At G σ ρ τ H ∧ w ρ (fun x ρ' => x ≠ .un → ρ'.length = ρ.length → ∀ v H', At G σ ρ' (τ ++ [(some v, x)]) H' → Q v H') (xw G τ)
def tDB (G : Gx) (w : DT Bool) : TT := fun σ H Q => ∃ ρ τ, At G σ ρ τ H ∧ w ρ (fun b ρ' => ρ'.length = ρ.length → ∀ H', At G σ ρ' τ H' → Q b H') (xw G τ)
/-- arguments, each with its slot -/
def temps (vs : List V) (xs : List Sl) : Roots := (vs.map some).zip xs
def tDA (G : Gx) (n : Nat) (w : DT (List Sl)) : TA := fun σ H Q => ∃ ρ τ, At G σ ρ τ H ∧
  w ρ (fun xs ρ' => (∀ x ∈ xs, x ≠ .un) → xs.length = n → ρ'.length = ρ.length → ∀ vs H', vs.length = xs.length → At G σ ρ' (τ ++ temps vs xs) H' → Q vs H') (xw G τ)

structure DE (G : Gx) (X : Cx) (e : Expr) (w : DT Sl) : Prop where
  mono : Mono w
  pe : PE X e (tD G w)
structure DB (G : Gx) (X : Cx) (e : Expr) (w : DT Bool) : Prop where
  mono : Mono w
  pt : PT X e (tDB G w)
structure DA (G : Gx) (X : Cx) (es : List Expr) (w : DT (List Sl)) : Prop where
  mono : Mono w
  pa : PA X es (tDA G es.length w)

theorem pe_weak {X : Cx} {e : Expr} {t t' : TE} (h : PE X e t) (k : ∀ σ H Q, t' σ H Q → t σ H Q) : PE X e t' := ⟨fun pins s σ H Q I q => h.run pins s σ H Q I (k σ H Q q)⟩
theorem pt_weak {X : Cx} {e : Expr} {t t' : TT} (h : PT X e t) (k : ∀ σ H Q, t' σ H Q → t σ H Q) : PT X e t' := ⟨fun pins s σ H Q I q => h.run pins s σ H Q I (k σ H Q q)⟩
theorem pa_weak {X : Cx} {es : List Expr} {t t' : TA} (h : PA X es t) (k : ∀ σ H Q, t' σ H Q → t σ H Q) : PA X es t' := ⟨fun pos pins s σ H Q I q => h.run pos pins s σ H Q I (k σ H Q q)⟩

section
variable {G : Gx} {σ : St} {ρ ρ' : DEnv} {τ : Roots} {H H' : Hp}
theorem zip_split : ∀ {σ : St} {ρ : DEnv} {i : Nat} {x : Sl}, ρ.length = σ.length → ρ[i]? = some x → ∃ (L R : Roots) (v : Option V), σ[i]? = some v ∧ σ.zip ρ = L ++ (v, x) :: R ∧ ∀ y, σ.zip (ρ.set i y) = L ++ (v, y) :: R
  | [], [], i, x, _, e => by simp at e
  | [], _ :: _, i, x, l, e => by simp at l
  | _ :: _, [], i, x, l, e => by simp at l
  | s :: σ, r :: ρ, 0, x, l, e => by
    have e2 : r = x := by simpa using e
    subst e2
    exact ⟨[], σ.zip ρ, s, rfl, rfl, fun y => rfl⟩
  | s :: σ, r :: ρ, i + 1, x, l, e => by
    obtain ⟨L, R, v, h1, h2, h3⟩ := zip_split (σ := σ) (ρ := ρ) (i := i) (x := x) (by simpa using l) (by simpa using e)
    exact ⟨(s, r) :: L, R, v, by simpa using h1, by rw [List.zip_cons_cons, h2]; rfl, fun y => by
      show (s, r) :: σ.zip (ρ.set i y) = _
      rw [h3 y]; rfl⟩
/-- a name's value is told still -/
theorem At.freeze (h : At G σ ρ τ H) {i : Nat} {x : Sl} (e : ρ[i]? = some x) (hx : x ≠ .un) : ∃ v B, σ[i]? = some (some v) ∧ Rp G.K G.so B v x.dat ∧ (ρ.set i (.sh x.dat)).length = σ.length ∧ Rel G (σ.zip (ρ.set i (.sh x.dat)) ++ τ) H B := by
  obtain ⟨L, R, v, h1, h2, h3⟩ := zip_split h.len e
  obtain ⟨B, hr⟩ := h.rel
  rw [h2] at hr
  cases v with
  | none =>
    have q := hr.rep (none, x) (by simp)
    cases x with
    | un => exact absurd rfl hx
    | _ => exact q.elim
  | some v =>
    rw [List.append_assoc, List.cons_append] at hr
    have f := hr.freeze hx
    refine ⟨v, _, h1, f.rep (some v, .sh x.dat) (by simp), by rw [List.length_set]; exact h.len, ?_⟩
    rw [h3, List.append_assoc, List.cons_append]
    exact f
/-- the last root is told still -/
theorem At.freezeLast (h : At G σ ρ (τ ++ [(some v, x)]) H) (hx : x ≠ .un) : ∃ B, Rel G (σ.zip ρ ++ (τ ++ [(some v, .sh x.dat)])) H B := by
  obtain ⟨B, hr⟩ := h.rel
  rw [← List.append_assoc] at hr
  have f := Rel.freeze (R₁ := σ.zip ρ ++ τ) (R₂ := []) hx hr
  exact ⟨_, by rw [← List.append_assoc]; exact f⟩
theorem At.still (h : At G σ ρ (τ ++ [(some v, x)]) H) (hx : x ≠ .un) : ∃ B, Rp G.K G.so B v x.dat ∧ Rel G (σ.zip ρ ++ τ) H B := by
  obtain ⟨B, hr⟩ := h.freezeLast hx
  refine ⟨B, hr.rep (some v, .sh x.dat) (by simp), hr.sublist ?_⟩
  rw [← List.append_assoc]
  exact List.sublist_append_left _ _
theorem At.drop (h : At G σ ρ (τ ++ τ') H) : At G σ ρ τ H := by
  obtain ⟨B, hr⟩ := h.rel
  exact ⟨h.len, B, hr.sublist (by rw [← List.append_assoc]; exact List.sublist_append_left _ _)⟩
theorem At.mk' (l : ρ.length = σ.length) (hr : Rel G (σ.zip ρ ++ τ) H B) : At G σ ρ τ H := ⟨l, B, hr⟩
theorem At.addSh (l : ρ.length = σ.length) (hr : Rel G (σ.zip ρ ++ τ) H B) (q : Rp G.K G.so B v d) : At G σ ρ (τ ++ [(some v, .sh d)]) H := ⟨l, B, by rw [← List.append_assoc]; exact hr.addSh q⟩
theorem At.addOw (l : ρ.length = σ.length) (hr : Rel G (σ.zip ρ ++ τ) H B) {p : Addr} {vs : List V} {ds : List D} (e : H p = none) (q : Rps G.K G.so B vs ds) : At G σ ρ (τ ++ [(some (.ref p), .ow p ds)]) (upd H p (.lst vs)) :=
  ⟨l, B, by rw [← List.append_assoc]; exact hr.addOw e q⟩
theorem At.addNew (l : ρ.length = σ.length) (hr : Rel G (σ.zip ρ ++ τ) H B) {p : Addr} {o : HO} {d : D} (e : H p = none) (q : ∀ B', Same B B' → B' p = some o → Rp G.K G.so B' (.ref p) d) : At G σ ρ (τ ++ [(some (.ref p), .sh d)]) (upd H p o) :=
  At.addSh l (hr.newB e) (q _ (same_upd (hr.free e)) upd_same)
end

/-! ### names, constants -/
def wC (d : D) : DT Sl := fun ρ Q _ => Q (.sh d) ρ
/-- a name, its value handed on -/
def wVar (i : Nat) : DT Sl := fun ρ Q _ => match ρ[i]? with
  | some .un => False
  | none => False
  | some x => Q (.sh x.dat) (ρ.set i (.sh x.dat))
section
variable {G : Gx} {X : Cx} {pos : Pos}
theorem de_const {e : Expr} {v : V} {d : D} (h : PE X e (tC v)) (q : ∀ B, Rp G.K G.so B v d) : DE G X e (wC d) := by
  refine ⟨fun _ _ _ _ _ hq _ h => hq _ _ h, pe_weak h fun σ H Q hw => ?_⟩
  obtain ⟨ρ, τ, ⟨l, B, hr⟩, hw⟩ := hw
  exact hw (fun z => by cases z) rfl v H (At.addSh l hr (q B))
theorem de_int {i : Int} {j : Nat} : DE G X (.Constant (.int i) j pos) (wC (.int i)) := de_const pe_int fun _ => .int i
theorem de_bl {b : Bool} {j : Nat} : DE G X (.Constant (.bool b) j pos) (wC (.bl b)) := de_const pe_bl fun _ => .bl b
theorem de_non {j : Nat} : DE G X (.Constant .none j pos) (wC .non) := de_const pe_non fun _ => .non
theorem de_str {x : Str} {j : Nat} : DE G X (.Constant (.str x) j pos) (wC (.str x)) := de_const pe_str fun _ => .str x
theorem wVar_mono {i : Nat} : Mono (wVar i) := fun ρ _ _ _ _ hq _ h => by
  unfold wVar at h ⊢
  split at h
  · exact h.elim
  · exact h.elim
  · exact hq _ _ h
theorem de_var (i : Nat) {x : Str} (hN : X.N[i]? = some x := by rfl) (hv : Vis X.env.scope x := by first | exact Or.inl rfl | exact Or.inr (Or.inl rfl) | exact Or.inr (Or.inr rfl)) (hd : (x == ("__debug__" : Str)) = false := by decide)
    (hcd : (x == ("__classdict__" : Str)) = false := by decide) : DE G X (.Name x pos) (wVar i) := by
  refine ⟨wVar_mono, pe_weak (pe_var hN hv hd hcd) fun σ H Q hw => ?_⟩
  obtain ⟨ρ, τ, hA, hw⟩ := hw
  unfold wVar at hw
  split at hw
  · exact hw.elim
  · exact hw.elim
  · rename_i y hne e
    obtain ⟨v, B, h1, h2, h3, h4⟩ := hA.freeze e hne
    exact ⟨v, h1, hw (fun z => by cases z) (by rw [List.length_set]) v H (At.addSh h3 h4 h2)⟩
end

/-! ### two-place operations, by still data -/
abbrev RO2 := D → D → (Sl → Prop) → Prop
/-- ro tells of data what r tells of values -/
def OpD (G : Gx) (r : R2) (ro : RO2) : Prop := ∀ (σ : St) (ρ : DEnv) (τ : Roots) (x y : V) (d e : D) (H B : Hp) (Q : VK), ρ.length = σ.length → Rel G (σ.zip ρ ++ τ) H B → Rp G.K G.so B x d → Rp G.K G.so B y e →
  ro d e (fun z => z ≠ .un → ∀ v H', At G σ ρ (τ ++ [(some v, z)]) H' → Q v H') → r x y H Q
def MonoO (ro : RO2) : Prop := ∀ ⦃d e : D⦄ ⦃Q Q' : Sl → Prop⦄, (∀ z, Q z → Q' z) → ro d e Q → ro d e Q'
def wOp (ro : RO2) (wa wb : DT Sl) : DT Sl := fun ρ Q E => wa ρ (fun x ρ1 => wb ρ1 (fun y ρ2 => ro x.dat y.dat fun z => Q z ρ2) E) E
theorem wOp_mono {ro : RO2} {wa wb : DT Sl} (hm : MonoO ro) (ha : Mono wa) (hb : Mono wb) : Mono (wOp ro wa wb) := fun _ _ _ _ _ hq he h =>
  ha (fun _ _ h1 => hb (fun _ _ h2 => hm (fun _ h3 => hq _ _ h3) h2) he h1) he h
section
variable {G : Gx} {X : Cx} {a b : Expr} {wa wb : DT Sl} {pos : Pos}
/-- the reading of two parts in a row -/
theorem two_parts {σ : St} {H : Hp} {r : R2} {ro : RO2} {Q : VK} (hd : OpD G r ro) (hm : MonoO ro) (ha : Mono wa) (hb : Mono wb) (h : tD G (wOp ro wa wb) σ H Q) :
    tD G wa σ H fun x H1 => tD G wb σ H1 fun y H2 => r x y H2 Q := by
  obtain ⟨ρ, τ, hA, hw⟩ := h
  refine ⟨ρ, τ, hA, ha (fun x ρ1 h1 nx l1 v1 H1 A1 => ?_) (fun _ _ e => e) hw⟩
  refine ⟨ρ1, _, A1, hb (fun y ρ2 h2 ny l2 v2 H2 A2 => ?_) xw_app h1⟩
  obtain ⟨B, hr⟩ := A2.freezeLast ny
  have A3 : At G σ ρ2 (τ ++ [(some v1, x)] ++ [(some v2, .sh y.dat)]) H2 := ⟨A2.len, B, hr⟩
  obtain ⟨B', hr'⟩ := A3.rel
  rw [List.append_assoc, ← List.append_assoc] at hr'
  have f := Rel.freeze (R₁ := σ.zip ρ2 ++ τ) (R₂ := [(some v2, .sh y.dat)]) nx hr'
  refine hd σ ρ2 τ v1 v2 x.dat y.dat H2 _ Q A2.len (f.sublist (List.sublist_append_left _ _)) (f.rep (some v1, .sh x.dat) (by simp)) (f.rep (some v2, .sh y.dat) (by simp)) (hm (fun z hz nz v H' A' => hz nz (l2.trans l1) v H' A') h2)
theorem de_op {op : Operator} {r : R2} {ro : RO2} (ho : OpR X (binaryOp op) r) (hd : OpD G r ro) (hm : MonoO ro) (ha : DE G X a wa) (hb : DE G X b wb) : DE G X (.BinOp a op b pos) (wOp ro wa wb) :=
  ⟨wOp_mono hm ha.mono hb.mono, pe_weak (pe_op ho ha.pe hb.pe) fun σ H Q h => two_parts hd hm ha.mono hb.mono h⟩
theorem de_cmp {op : CmpOp} {r : R2} {ro : RO2} (ho : OpR X (compareOp op) r) (hd : OpD G r ro) (hm : MonoO ro) (ha : DE G X a wa) (hb : DE G X b wb) (hk : behindInMarks op b = false) : DE G X (.Compare a [op] [b] pos) (wOp ro wa wb) :=
  ⟨wOp_mono hm ha.mono hb.mono, pe_weak (pe_cmpR ho ha.pe hb.pe hk) fun σ H Q h => two_parts hd hm ha.mono hb.mono h⟩
end

/-! ### ints -/
def roI (C : Int → Int → Prop) (g : Int → Int → Int) : RO2 := fun d e Q => match d, e with
  | .int i, .int j => C i j ∧ Q (.sh (.int (g i j)))
  | _, _ => False
def roI0 (g : Int → Int → Int) : RO2 := fun d e Q => match d, e with
  | .int i, .int j => Q (.sh (.int (g i j)))
  | _, _ => False
def roB (g : Int → Int → Bool) : RO2 := fun d e Q => match d, e with
  | .int i, .int j => Q (.sh (.bl (g i j)))
  | _, _ => False
theorem roI_mono {C : Int → Int → Prop} {g : Int → Int → Int} : MonoO (roI C g) := fun d e _ _ hq h => by
  unfold roI at h ⊢
  split at h
  · exact ⟨h.1, hq _ h.2⟩
  · exact h
theorem roI0_mono {g : Int → Int → Int} : MonoO (roI0 g) := fun d e _ _ hq h => by
  unfold roI0 at h ⊢
  split at h
  · exact hq _ h
  · exact h
theorem roB_mono {g : Int → Int → Bool} : MonoO (roB g) := fun d e _ _ hq h => by
  unfold roB at h ⊢
  split at h
  · exact hq _ h
  · exact h
section
variable {G : Gx}
theorem od_I {C : Int → Int → Prop} {g : Int → Int → Int} : OpD G (rI C fun i j => .int (g i j)) (roI C g) := by
  intro σ ρ τ x y d e H B Q l hr hx hy h
  unfold roI at h
  split at h
  · cases hx; cases hy
    exact ⟨_, _, rfl, rfl, h.1, h.2 (fun z => by cases z) _ _ (At.addSh l hr (.int _))⟩
  · exact h.elim
theorem od_I0 {g : Int → Int → Int} : OpD G (rI0 fun i j => .int (g i j)) (roI0 g) := by
  intro σ ρ τ x y d e H B Q l hr hx hy h
  unfold roI0 at h
  split at h
  · cases hx; cases hy
    exact ⟨_, _, rfl, rfl, h (fun z => by cases z) _ _ (At.addSh l hr (.int _))⟩
  · exact h.elim
theorem od_B {g : Int → Int → Bool} : OpD G (rI0 fun i j => .bl (g i j)) (roB g) := by
  intro σ ρ τ x y d e H B Q l hr hx hy h
  unfold roB at h
  split at h
  · cases hx; cases hy
    exact ⟨_, _, rfl, rfl, h (fun z => by cases z) _ _ (At.addSh l hr (.bl _))⟩
  · exact h.elim
end
section
variable {G : Gx} {X : Cx} {a b : Expr} {wa wb : DT Sl} {pos : Pos}
/-- a product: one factor within 64 bits, or both together below a million bits -/
def CMulA (i j : Int) : Prop := CMul i j ∨ CMulW i j
theorem op_mulA : OpR X (binaryOp .Mult) (rI CMulA fun i j => .int (i * j)) := opI fun _ _ _ _ _ _ _ hc q => mul_int q (hc.elim CMul.ok CMulW.ok)
/-- a floor by a divisor that is not 0, below 9000 bits -/
def CDivA (_ j : Int) : Prop := j ≠ 0 ∧ j.natAbs.log2 < 9000
theorem op_fdivA : OpR X (binaryOp .FloorDiv) (rI CDivA fun i j => .int (i.fdiv j)) := opI fun i j _ _ _ _ _ hc q => floordiv_int hc.1 q (.inl (PyProof.noPylong_of_log2 hc.2))
abbrev CNz (_ j : Int) : Prop := j ≠ 0
abbrev CNn (_ j : Int) : Prop := 0 ≤ j
abbrev wSub := wOp (roI0 fun i j => i - j)
abbrev wMul := wOp (roI CMulA fun i j => i * j)
abbrev wFdiv := wOp (roI CDivA fun i j => i.fdiv j)
abbrev wMod := wOp (roI CNz fun i j => i.fmod j)
abbrev wPow := wOp (roI CPow fun i j => i ^ j.toNat)
abbrev wShl := wOp (roI CPow fun i j => i * 2 ^ j.toNat)
abbrev wShr := wOp (roI CNn fun i j => i / 2 ^ j.toNat)
abbrev wAnd2 := wOp (roI0 fun i j => Builtin.bitAnd i j)
abbrev wOr2 := wOp (roI0 fun i j => Builtin.bitOr i j)
abbrev wXor2 := wOp (roI0 fun i j => Builtin.bitXor i j)
theorem de_sub (ha : DE G X a wa) (hb : DE G X b wb) : DE G X (.BinOp a .Sub b pos) (wSub wa wb) := de_op op_sub od_I0 roI0_mono ha hb
theorem de_mul (ha : DE G X a wa) (hb : DE G X b wb) : DE G X (.BinOp a .Mult b pos) (wMul wa wb) := de_op op_mulA od_I roI_mono ha hb
theorem de_fdiv (ha : DE G X a wa) (hb : DE G X b wb) : DE G X (.BinOp a .FloorDiv b pos) (wFdiv wa wb) := de_op op_fdivA od_I roI_mono ha hb
theorem de_mod (ha : DE G X a wa) (hb : DE G X b wb) : DE G X (.BinOp a .Mod b pos) (wMod wa wb) := de_op op_modN od_I roI_mono ha hb
theorem de_pow (ha : DE G X a wa) (hb : DE G X b wb) : DE G X (.BinOp a .Pow b pos) (wPow wa wb) := de_op op_pow od_I roI_mono ha hb
theorem de_shl (ha : DE G X a wa) (hb : DE G X b wb) : DE G X (.BinOp a .LShift b pos) (wShl wa wb) := de_op op_shl od_I roI_mono ha hb
theorem de_shr (ha : DE G X a wa) (hb : DE G X b wb) : DE G X (.BinOp a .RShift b pos) (wShr wa wb) := de_op op_shr od_I roI_mono ha hb
theorem de_and2 (ha : DE G X a wa) (hb : DE G X b wb) : DE G X (.BinOp a .BitAnd b pos) (wAnd2 wa wb) := de_op op_and od_I0 roI0_mono ha hb
theorem de_or2 (ha : DE G X a wa) (hb : DE G X b wb) : DE G X (.BinOp a .BitOr b pos) (wOr2 wa wb) := de_op op_or od_I0 roI0_mono ha hb
theorem de_xor2 (ha : DE G X a wa) (hb : DE G X b wb) : DE G X (.BinOp a .BitXor b pos) (wXor2 wa wb) := de_op op_xor od_I0 roI0_mono ha hb
abbrev wLt := wOp (roB fun i j => decide (i < j))
abbrev wGt := wOp (roB fun i j => decide (j < i))
end

/-! ### == and != of data -/
mutual
def toPy : D → Option PyData
  | .non => some .none
  | .bl b => some (.bool b)
  | .int i => some (.int i)
  | .str x => some (.str x)
  | .lst ds => (toPys ds).map .list
  | .tup ds => (toPys ds).map .tuple
  | _ => none
def toPys : List D → Option (List PyData)
  | [] => some []
  | d :: ds => match toPy d, toPys ds with
    | some p, some ps => some (p :: ps)
    | _, _ => none
end
section
variable {K : PySem.W.Frag} {so : Option Addr} {B H : Hp}
mutual
theorem Rp.dp (e : Same B H) : ∀ {v : V} {d : D} {p : PyData}, Rp K so B v d → toPy d = some p → Dp K H v p
  | _, _, _, .non, h => by simp only [toPy, Option.some.injEq] at h; subst h; exact .non
  | _, _, _, .bl b, h => by simp only [toPy, Option.some.injEq] at h; subst h; exact .bl b
  | _, _, _, .int i, h => by simp only [toPy, Option.some.injEq] at h; subst h; exact .int i
  | _, _, _, .str x, h => by simp only [toPy, Option.some.injEq] at h; subst h; exact .str x
  | _, .lst ds, _, .lst h r, q => by
    simp only [toPy, Option.map_eq_some_iff] at q
    obtain ⟨ps, q1, q2⟩ := q
    subst q2
    exact .lst (.inl (.inl (e _ _ h))) (Rps.dp e r q1)
  | _, .tup ds, _, .tup h r, q => by
    simp only [toPy, Option.map_eq_some_iff] at q
    obtain ⟨ps, q1, q2⟩ := q
    subst q2
    exact .tup (sqT_same e h) (Rps.dp e r q1)
  | _, _, _, .dic _ _ _, h => by simp [toPy] at h
  | _, _, _, .ins _ _ _, h => by simp [toPy] at h
  | _, _, _, .exn _ _, h => by simp [toPy] at h
  | _, _, _, .exa _ _ _ _, h => by simp [toPy] at h
  | _, _, _, .sto _, h => by simp [toPy] at h
  | _, _, _, .scr _, h => by simp [toPy] at h
theorem Rps.dp (e : Same B H) : ∀ {vs : List V} {ds : List D} {ps : List PyData}, Rps K so B vs ds → toPys ds = some ps → DpAll K H vs ps
  | _, _, _, .nil, h => by simp only [toPys, Option.some.injEq] at h; subst h; exact .nil
  | _, _, _, .cons (d := d) (ds := ds) h r, q => by
    unfold toPys at q
    split at q
    · rename_i p ps e1 e2
      simp only [Option.some.injEq] at q
      subst q
      exact .cons (Rp.dp e h e1) (Rps.dp e r e2)
    · cases q
end
end
def roEq (neg : Bool) : RO2 := fun d e Q => ∃ p q, toPy d = some p ∧ toPy e = some q ∧ SeqAt.shaped p = true ∧ SeqAt.shaped q = true ∧ Q (.sh (.bl (xor neg (PyData.eqv p q))))
theorem roEq_mono {neg : Bool} : MonoO (roEq neg) := fun _ _ _ _ hq ⟨p, q, a, b, c, d, h⟩ => ⟨p, q, a, b, c, d, hq _ h⟩
section
variable {G : Gx} {X : Cx} {a b : Expr} {wa wb : DT Sl} {pos : Pos}
theorem od_eq : OpD G (rEqD G.K) (roEq false) := by
  rintro σ ρ τ x y d e H B Q l hr hx hy ⟨p, q, h1, h2, h3, h4, h5⟩
  refine ⟨p, q, hx.dp hr.hi h1, hy.dp hr.hi h2, h3, h4, ?_⟩
  rw [Bool.false_xor] at h5
  exact h5 (fun z => by cases z) _ _ (At.addSh l hr (.bl _))
theorem od_ne : OpD G (rNeD G.K) (roEq true) := by
  rintro σ ρ τ x y d e H B Q l hr hx hy ⟨p, q, h1, h2, h3, h4, h5⟩
  refine ⟨p, q, hx.dp hr.hi h1, hy.dp hr.hi h2, h3, h4, ?_⟩
  rw [Bool.true_xor] at h5
  exact h5 (fun z => by cases z) _ _ (At.addSh l hr (.bl _))
theorem de_eq (hu : X.A.units + 64 < cLine) (hK : G.K = X.K) (ha : DE G X a wa) (hb : DE G X b wb) : DE G X (.Compare a [.Eq] [b] pos) (wOp (roEq false) wa wb) := de_cmp (op_eqD hu) (hK ▸ od_eq) roEq_mono ha hb (nomark _)
end
end DL
set_option Elab.async false
set_option maxRecDepth 100000
set_option maxHeartbeats 4000000
set_option linter.unusedVariables false
/-! data-level layer, part c: tests, arguments, displays, calls -/
namespace DL
open PySem PySem.Spec PyProof.Rows L2

/-! ### tests -/
def wTest (w : DT Sl) : DT Bool := fun ρ Q E => w ρ (fun x ρ1 => match x.dat with
  | .bl b => Q b ρ1
  | _ => False) E
theorem wTest_mono {w : DT Sl} (h : Mono w) : Mono (wTest w) := fun _ _ _ _ _ hq he q => h (fun x ρ1 k => by
  split at k
  · exact hq _ _ k
  · exact k.elim) he q
def wTruth (w : DT Sl) : DT Bool := fun ρ Q E => w ρ (fun x ρ1 => match x.dat with
  | .bl b => Q b ρ1
  | .non => Q false ρ1
  | .int i => Q (i != 0) ρ1
  | .str y => y.length ≤ sizeLine ∧ Q ((y.length : Int) != 0) ρ1
  | .lst ds => Q (!ds.isEmpty) ρ1
  | .tup ds => Q (!ds.isEmpty) ρ1
  | _ => False) E
theorem wTruth_mono {w : DT Sl} (h : Mono w) : Mono (wTruth w) := fun _ _ _ _ _ hq he q => h (fun x ρ1 k => by
  split at k
  · exact hq _ _ k
  · exact hq _ _ k
  · exact hq _ _ k
  · exact ⟨k.1, hq _ _ k.2⟩
  · exact hq _ _ k
  · exact hq _ _ k
  · exact k.elim) he q
def wAndB (wa wb : DT Bool) : DT Bool := fun ρ Q E => wa ρ (fun c ρ1 => if c = true then wb ρ1 Q E else Q false ρ1) E
def wOrB (wa wb : DT Bool) : DT Bool := fun ρ Q E => wa ρ (fun c ρ1 => if c = true then Q true ρ1 else wb ρ1 Q E) E
def wNotB (wa : DT Bool) : DT Bool := fun ρ Q E => wa ρ (fun c ρ1 => Q (!c) ρ1) E
theorem wAndB_mono {wa wb : DT Bool} (ha : Mono wa) (hb : Mono wb) : Mono (wAndB wa wb) := fun _ _ _ _ _ hq he q => ha (fun c ρ1 k => by
  by_cases h : c = true
  · rw [if_pos h] at k ⊢; exact hb hq he k
  · rw [if_neg h] at k ⊢; exact hq _ _ k) he q
theorem wOrB_mono {wa wb : DT Bool} (ha : Mono wa) (hb : Mono wb) : Mono (wOrB wa wb) := fun _ _ _ _ _ hq he q => ha (fun c ρ1 k => by
  by_cases h : c = true
  · rw [if_pos h] at k ⊢; exact hq _ _ k
  · rw [if_neg h] at k ⊢; exact hb hq he k) he q
theorem wNotB_mono {wa : DT Bool} (ha : Mono wa) : Mono (wNotB wa) := fun _ _ _ _ _ hq he q => ha (fun c ρ1 k => hq _ _ k) he q
section
variable {G : Gx} {X : Cx} {a b c e : Expr} {w wa wb : DT Sl} {ta tb : DT Bool} {pos : Pos} {rest : List Expr}
theorem test_of {σ : St} {H : Hp} {Q : Bool → Hp → Prop} (hm : Mono w) (h : tDB G (wTest w) σ H Q) : tD G w σ H fun x H1 => ∃ k, x = .bl k ∧ Q k H1 := by
  obtain ⟨ρ, τ, hA, hw⟩ := h
  refine ⟨ρ, τ, hA, hm (fun x ρ1 k nx l v H1 A1 => ?_) (fun _ _ e => e) hw⟩
  obtain ⟨B, h1, h2⟩ := A1.still nx
  split at k
  · rename_i b e
    rw [e] at h1
    cases h1
    exact ⟨b, rfl, k l H1 (.mk' A1.len h2)⟩
  · exact k.elim
theorem db_val (h : DE G X e w) (he : ∀ whole, isTrue e X.env whole = (do let v ← whole; standAt e.pos; holding [v] (truthy v)) := by intro _; rfl) : DB G X e (wTest w) :=
  ⟨wTest_mono h.mono, pt_weak (pt_val h.pe he) fun σ H Q q => test_of h.mono q⟩
theorem db_truth (hK : G.K = X.K) (h : DE G X e w) (he : ∀ whole, isTrue e X.env whole = (do let v ← whole; standAt e.pos; holding [v] (truthy v)) := by intro _; rfl) : DB G X e (wTruth w) := by
  refine ⟨wTruth_mono h.mono, pt_weak (pt_truth h.pe he) fun σ H Q q => ?_⟩
  obtain ⟨ρ, τ, hA, hw⟩ := q
  refine ⟨ρ, τ, hA, h.mono (fun x ρ1 k nx l v H1 A1 => ?_) (fun _ _ e => e) hw⟩
  obtain ⟨B, h1, h2⟩ := A1.still nx
  have fin : ∀ k', (∀ H', At G σ ρ1 τ H' → Q k' H') → Q k' H1 := fun k' z => z H1 (.mk' A1.len h2)
  split at k
  · rename_i b e; rw [e] at h1; cases h1; exact ⟨b, rfl, fin _ (k l)⟩
  · rename_i e; rw [e] at h1; cases h1; exact ⟨false, rfl, fin _ (k l)⟩
  · rename_i i e; rw [e] at h1; cases h1; exact ⟨_, rfl, fin _ (k l)⟩
  · rename_i y e; rw [e] at h1; cases h1; exact ⟨_, ⟨k.1, rfl⟩, fin _ (k.2 l)⟩
  · rename_i ds e; rw [e] at h1
    cases h1 with
    | lst hs hr =>
      refine ⟨_, .inl ⟨_, .inl (.inl (h2.hi _ _ hs)), rfl⟩, ?_⟩
      have e2 := hr.len
      have e3 : ∀ {vs : List V}, vs.length = ds.length → vs.isEmpty = ds.isEmpty := fun {vs} q => by cases vs <;> cases ds <;> simp at q ⊢
      rw [e3 e2]
      exact fin _ (k l)
  · rename_i ds e; rw [e] at h1
    cases h1 with
    | tup hs hr =>
      rw [hK] at hs
      refine ⟨_, .inr (.inl ⟨_, sqT_same h2.hi hs, rfl⟩), ?_⟩
      have e2 := hr.len
      have e3 : ∀ {vs : List V}, vs.length = ds.length → vs.isEmpty = ds.isEmpty := fun {vs} q => by cases vs <;> cases ds <;> simp at q ⊢
      rw [e3 e2]
      exact fin _ (k l)
  · exact k.elim
theorem db_cmp {op : CmpOp} {r : R2} {ro : RO2} (ho : OpR X (compareOp op) r) (hd : OpD G r ro) (hm : MonoO ro) (ha : DE G X a wa) (hb : DE G X b wb) (hk : behindInMarks op b = false) : DB G X (.Compare a [op] [b] pos) (wTest (wOp ro wa wb)) :=
  ⟨wTest_mono (wOp_mono hm ha.mono hb.mono), pt_weak (pt_cmpR ho ha.pe hb.pe hk) fun σ H Q h => two_parts hd hm ha.mono hb.mono (test_of (wOp_mono hm ha.mono hb.mono) h)⟩
theorem db_lt (ha : DE G X a wa) (hb : DE G X b wb) : DB G X (.Compare a [.Lt] [b] pos) (wTest (wLt wa wb)) := db_cmp op_lt od_B roB_mono ha hb (nomark _)
theorem db_gt (ha : DE G X a wa) (hb : DE G X b wb) : DB G X (.Compare a [.Gt] [b] pos) (wTest (wGt wa wb)) := db_cmp op_gt od_B roB_mono ha hb (nomark _)
theorem db_eq (hu : X.A.units + 64 < cLine) (hK : G.K = X.K) (ha : DE G X a wa) (hb : DE G X b wb) : DB G X (.Compare a [.Eq] [b] pos) (wTest (wOp (roEq false) wa wb)) := db_cmp (op_eqD hu) (hK ▸ od_eq) roEq_mono ha hb (nomark _)
theorem db_ne (hu : X.A.units + 64 < cLine) (hK : G.K = X.K) (ha : DE G X a wa) (hb : DE G X b wb) : DB G X (.Compare a [.NotEq] [b] pos) (wTest (wOp (roEq true) wa wb)) := db_cmp (op_neD hu) (hK ▸ od_ne) roEq_mono ha hb (nomark _)
/-- x is None, x is not None -/
def roIsN (neg : Bool) : RO2 := fun d e Q => match e with
  | .non => (match d with
    | .non => Q (.sh (.bl (!neg)))
    | _ => Q (.sh (.bl neg)))
  | _ => False
theorem roIsN_mono {neg : Bool} : MonoO (roIsN neg) := fun d e _ _ hq h => by
  unfold roIsN at h ⊢
  split at h
  · split at h <;> exact hq _ h
  · exact h
theorem Rp.non_iff {K : PySem.W.Frag} {so : Option Addr} {B : Hp} {v : V} {d : D} (h : Rp K so B v d) (hd : d ≠ .non) : v ≠ .non := by
  cases h <;> first
    | exact absurd rfl hd
    | (intro z; cases z)
theorem od_isN : OpD G (fun x y H Q => y = .non ∧ Q (.bl (decide (x = .non))) H) (roIsN false) := by
  intro σ ρ τ x y d e H B Q l hr hx hy h
  unfold roIsN at h
  split at h
  · cases hy
    refine ⟨rfl, ?_⟩
    split at h
    · cases hx; exact h (fun z => by cases z) _ _ (At.addSh l hr (.bl _))
    · rename_i hd
      rw [decide_eq_false (hx.non_iff hd)]
      exact h (fun z => by cases z) _ _ (At.addSh l hr (.bl _))
  · exact h.elim
theorem od_notN : OpD G (fun x y H Q => y = .non ∧ Q (.bl (!decide (x = .non))) H) (roIsN true) := by
  intro σ ρ τ x y d e H B Q l hr hx hy h
  unfold roIsN at h
  split at h
  · cases hy
    refine ⟨rfl, ?_⟩
    split at h
    · cases hx; exact h (fun z => by cases z) _ _ (At.addSh l hr (.bl _))
    · rename_i hd
      rw [decide_eq_false (hx.non_iff hd)]
      exact h (fun z => by cases z) _ _ (At.addSh l hr (.bl _))
  · exact h.elim
theorem de_isN (ha : DE G X a wa) (hb : DE G X b wb) : DE G X (.Compare a [.Is] [b] pos) (wOp (roIsN false) wa wb) := de_cmp op_isN od_isN roIsN_mono ha hb (nomark _)
theorem db_isN (ha : DE G X a wa) (hb : DE G X b wb) : DB G X (.Compare a [.Is] [b] pos) (wTest (wOp (roIsN false) wa wb)) := db_cmp op_isN od_isN roIsN_mono ha hb (nomark _)
theorem db_notN (ha : DE G X a wa) (hb : DE G X b wb) : DB G X (.Compare a [.IsNot] [b] pos) (wTest (wOp (roIsN true) wa wb)) := db_cmp op_notN od_notN roIsN_mono ha hb (nomark _)
/-- a chain of and, or, as a test -/
structure DW (G : Gx) (X : Cx) (e : Expr) (w : DT Bool) : Prop where
  mono : Mono w
  pw : PW X e (tDB G w)
theorem DW.db {w : DT Bool} (h : DW G X e w) : DB G X e w := ⟨h.mono, h.pw.pt⟩
theorem pw_weak {X : Cx} {e : Expr} {t t' : TT} (h : PW X e t) (k : ∀ σ H Q, t' σ H Q → t σ H Q) : PW X e t' := ⟨fun wh pins s σ H Q I q => h.run wh pins s σ H Q I (k σ H Q q)⟩
theorem dw_and1 (ha : DB G X a ta) : DW G X (.BoolOp .And [a] pos) ta := ⟨ha.mono, pw_and1 ha.pt⟩
theorem dw_or1 (ha : DB G X a ta) : DW G X (.BoolOp .Or [a] pos) ta := ⟨ha.mono, pw_or1 ha.pt⟩
theorem dw_and (ha : DB G X a ta) (hb : DW G X (.BoolOp .And (b :: rest) pos) tb) : DW G X (.BoolOp .And (a :: b :: rest) pos) (wAndB ta tb) := by
  refine ⟨wAndB_mono ha.mono hb.mono, pw_weak (pw_and ha.pt hb.pw) fun σ H Q h => ?_⟩
  obtain ⟨ρ, τ, hA, hw⟩ := h
  refine ⟨ρ, τ, hA, ha.mono (fun c ρ1 k l H1 A1 => ?_) (fun _ _ e => e) hw⟩
  by_cases z : c = true
  · rw [if_pos z] at k ⊢
    exact ⟨ρ1, τ, A1, hb.mono (fun c' ρ2 k2 l2 => k2 (l2.trans l)) (fun _ _ e => e) k⟩
  · rw [if_neg z] at k ⊢
    exact k l H1 A1
theorem dw_or (ha : DB G X a ta) (hb : DW G X (.BoolOp .Or (b :: rest) pos) tb) : DW G X (.BoolOp .Or (a :: b :: rest) pos) (wOrB ta tb) := by
  refine ⟨wOrB_mono ha.mono hb.mono, pw_weak (pw_or ha.pt hb.pw) fun σ H Q h => ?_⟩
  obtain ⟨ρ, τ, hA, hw⟩ := h
  refine ⟨ρ, τ, hA, ha.mono (fun c ρ1 k l H1 A1 => ?_) (fun _ _ e => e) hw⟩
  by_cases z : c = true
  · rw [if_pos z] at k ⊢
    exact k l H1 A1
  · rw [if_neg z] at k ⊢
    exact ⟨ρ1, τ, A1, hb.mono (fun c' ρ2 k2 l2 => k2 (l2.trans l)) (fun _ _ e => e) k⟩
theorem db_not (ha : DB G X a ta) : DB G X (.UnaryOp .Not a pos) (wNotB ta) := by
  refine ⟨wNotB_mono ha.mono, pt_weak (pt_not ha.pt) fun σ H Q h => ?_⟩
  exact h
/-- .. as values -/
def wAndV (wa wb : DT Sl) : DT Sl := fun ρ Q E => wa ρ (fun x ρ1 => match x.dat with
  | .bl true => wb ρ1 Q E
  | .bl false => Q (.sh (.bl false)) ρ1
  | _ => False) E
def wOrV (wa wb : DT Sl) : DT Sl := fun ρ Q E => wa ρ (fun x ρ1 => match x.dat with
  | .bl true => Q (.sh (.bl true)) ρ1
  | .bl false => wb ρ1 Q E
  | _ => False) E
def wNotV (wa : DT Sl) : DT Sl := fun ρ Q E => wa ρ (fun x ρ1 => match x.dat with
  | .bl c => Q (.sh (.bl (!c))) ρ1
  | _ => False) E
theorem wAndV_mono (ha : Mono wa) (hb : Mono wb) : Mono (wAndV wa wb) := fun _ _ _ _ _ hq he q => ha (fun c ρ1 k => by
  split at k
  · exact hb hq he k
  · exact hq _ _ k
  · exact k.elim) he q
theorem wNotV_mono (ha : Mono wa) : Mono (wNotV wa) := fun _ _ _ _ _ hq he q => ha (fun c ρ1 k => by
  split at k
  · exact hq _ _ k
  · exact k.elim) he q
theorem de_one {op : BoolOp} (ha : DE G X a wa) : DE G X (.BoolOp op [a] pos) wa := ⟨ha.mono, pe_one ha.pe⟩
theorem de_and (ha : DE G X a wa) (hb : DE G X (.BoolOp .And (b :: rest) pos) wb) : DE G X (.BoolOp .And (a :: b :: rest) pos) (wAndV wa wb) := by
  refine ⟨wAndV_mono ha.mono hb.mono, pe_weak (pe_and ha.pe hb.pe) fun σ H Q h => ?_⟩
  obtain ⟨ρ, τ, hA, hw⟩ := h
  refine ⟨ρ, τ, hA, ha.mono (fun x ρ1 k nx l v H1 A1 => ?_) (fun _ _ e => e) hw⟩
  obtain ⟨B, h1, h2⟩ := A1.still nx
  split at k
  · rename_i e; rw [e] at h1; cases h1
    exact ⟨true, rfl, iteT ⟨ρ1, τ, .mk' A1.len h2, hb.mono (fun c' ρ2 k2 n2 l2 => k2 n2 (l2.trans l)) (fun _ _ e => e) k⟩⟩
  · rename_i e; rw [e] at h1; cases h1
    exact ⟨false, rfl, iteF (k (fun z => by cases z) l _ H1 (At.addSh A1.len h2 (.bl _)))⟩
  · exact k.elim
theorem de_not (ha : DE G X a wa) : DE G X (.UnaryOp .Not a pos) (wNotV wa) := by
  refine ⟨wNotV_mono ha.mono, pe_weak (pe_not ha.pe) fun σ H Q h => ?_⟩
  obtain ⟨ρ, τ, hA, hw⟩ := h
  refine ⟨ρ, τ, hA, ha.mono (fun x ρ1 k nx l v H1 A1 => ?_) (fun _ _ e => e) hw⟩
  obtain ⟨B, h1, h2⟩ := A1.still nx
  split at k
  · rename_i c e; rw [e] at h1; cases h1
    exact ⟨c, rfl, k (fun z => by cases z) l _ H1 (At.addSh A1.len h2 (.bl _))⟩
  · exact k.elim
/-- a if t else b -/
def wIfE (wt : DT Bool) (wa wb : DT Sl) : DT Sl := fun ρ Q E => wt ρ (fun c ρ1 => if c = true then wa ρ1 Q E else wb ρ1 Q E) E
theorem wIfE_mono {wt : DT Bool} (ht : Mono wt) (ha : Mono wa) (hb : Mono wb) : Mono (wIfE wt wa wb) := fun _ _ _ _ _ hq he q => ht (fun c ρ1 k => by
  by_cases z : c = true
  · rw [if_pos z] at k ⊢; exact ha hq he k
  · rw [if_neg z] at k ⊢; exact hb hq he k) he q
theorem de_ifExp {wt : DT Bool} (ht : DB G X c wt) (ha : DE G X a wa) (hb : DE G X b wb) : DE G X (.IfExp c a b pos) (wIfE wt wa wb) := by
  refine ⟨wIfE_mono ht.mono ha.mono hb.mono, pe_weak (pe_ifExp ht.pt ha.pe hb.pe) fun σ H Q h => ?_⟩
  obtain ⟨ρ, τ, hA, hw⟩ := h
  refine ⟨ρ, τ, hA, ht.mono (fun c ρ1 k l H1 A1 => ?_) (fun _ _ e => e) hw⟩
  by_cases z : c = true
  · rw [if_pos z] at k ⊢
    exact ⟨ρ1, τ, A1, ha.mono (fun c' ρ2 k2 n2 l2 => k2 n2 (l2.trans l)) (fun _ _ e => e) k⟩
  · rw [if_neg z] at k ⊢
    exact ⟨ρ1, τ, A1, hb.mono (fun c' ρ2 k2 n2 l2 => k2 n2 (l2.trans l)) (fun _ _ e => e) k⟩
/-- a one-place operation on an int -/
def wUn (g : Int → D) (wa : DT Sl) : DT Sl := fun ρ Q E => wa ρ (fun x ρ1 => match x.dat with
  | .int i => Q (.sh (g i)) ρ1
  | _ => False) E
theorem wUn_mono {g : Int → D} (ha : Mono wa) : Mono (wUn g wa) := fun _ _ _ _ _ hq he q => ha (fun c ρ1 k => by
  split at k
  · exact hq _ _ k
  · exact k.elim) he q
abbrev wNeg := wUn fun i => .int (-i)
theorem de_neg (ha : DE G X a wa) : DE G X (.UnaryOp .USub a pos) (wNeg wa) := by
  refine ⟨wUn_mono ha.mono, pe_weak (pe_un un_neg ha.pe) fun σ H Q h => ?_⟩
  obtain ⟨ρ, τ, hA, hw⟩ := h
  refine ⟨ρ, τ, hA, ha.mono (fun x ρ1 k nx l v H1 A1 => ?_) (fun _ _ e => e) hw⟩
  obtain ⟨B, h1, h2⟩ := A1.still nx
  split at k
  · rename_i c e; rw [e] at h1; cases h1
    exact ⟨c, rfl, k (fun z => by cases z) l _ H1 (At.addSh A1.len h2 (.int _))⟩
  · exact k.elim
end

/-! ### arguments, displays -/
def wNil : DT (List Sl) := fun ρ Q _ => Q [] ρ
def wCons (wa : DT Sl) (wr : DT (List Sl)) : DT (List Sl) := fun ρ Q E => wa ρ (fun x ρ1 => wr ρ1 (fun xs ρ2 => Q (x :: xs) ρ2) E) E
theorem wCons_mono {wa : DT Sl} {wr : DT (List Sl)} (ha : Mono wa) (hr : Mono wr) : Mono (wCons wa wr) := fun _ _ _ _ _ hq he q => ha (fun x ρ1 k => hr (fun xs ρ2 k2 => hq _ _ k2) he k) he q
def datas (xs : List Sl) : List D := xs.map Sl.dat
section
variable {G : Gx} {X : Cx} {e : Expr} {es : List Expr} {wa : DT Sl} {wr : DT (List Sl)} {pos : Pos}
theorem da_nil : DA G X [] wNil := by
  refine ⟨fun _ _ _ _ _ hq _ h => hq _ _ h, pa_weak pa_nil fun σ H Q h => ?_⟩
  obtain ⟨ρ, τ, hA, hw⟩ := h
  refine hw (fun x hx => by cases hx) rfl rfl [] H rfl ?_
  show At G σ ρ (τ ++ []) H
  rw [List.append_nil]
  exact hA
theorem da_cons (ha : DE G X e wa) (hr : DA G X es wr) (hs : starEach (e :: es) X.env = (false, eval e X.env) :: starEach es X.env := by rfl) : DA G X (e :: es) (wCons wa wr) := by
  refine ⟨wCons_mono ha.mono hr.mono, pa_weak (pa_cons ha.pe hr.pa hs) fun σ H Q h => ?_⟩
  obtain ⟨ρ, τ, hA, hw⟩ := h
  refine ⟨ρ, τ, hA, ha.mono (fun x ρ1 k nx l v H1 A1 => ?_) (fun _ _ e => e) hw⟩
  refine ⟨ρ1, _, A1, hr.mono (fun xs ρ2 k2 nxs ln l2 vs H2 lv A2 => ?_) xw_app k⟩
  refine k2 (fun y hy => ?_) (by rw [List.length_cons, List.length_cons, ln]) (l2.trans l) (v :: vs) H2 (by rw [List.length_cons, List.length_cons, lv]) ?_
  · rcases List.mem_cons.mp hy with rfl | hy
    · exact nx
    · exact nxs y hy
  · show At G σ ρ2 (τ ++ ((some v, x) :: temps vs xs)) H2
    rw [List.append_assoc] at A2
    exact A2
/-- the temporaries told still -/
theorem At.stills {σ : St} {ρ : DEnv} {τ : Roots} {H : Hp} : ∀ {vs : List V} {xs : List Sl}, vs.length = xs.length → (∀ x ∈ xs, x ≠ .un) → At G σ ρ (τ ++ temps vs xs) H → ∃ B, Rps G.K G.so B vs (datas xs) ∧ Rel G (σ.zip ρ ++ τ) H B := by
  intro vs
  induction vs generalizing τ with
  | nil =>
    intro xs lv _ hA
    cases xs with
    | nil =>
      obtain ⟨B, hr⟩ := hA.rel
      exact ⟨B, .nil, hr.sublist (by rw [← List.append_assoc]; exact List.sublist_append_left _ _)⟩
    | cons _ _ => cases lv
  | cons v vs ih =>
    intro xs lv nx hA
    cases xs with
    | nil => cases lv
    | cons x xs =>
      have A2 : At G σ ρ ((τ ++ [(some v, x)]) ++ temps vs xs) H := by
        have e : (τ ++ [(some v, x)]) ++ temps vs xs = τ ++ temps (v :: vs) (x :: xs) := by rw [List.append_assoc]; rfl
        rw [e]; exact hA
      obtain ⟨B, h1, h2⟩ := ih (by simpa using lv) (fun y hy => nx y (List.mem_cons_of_mem _ hy)) A2
      rw [← List.append_assoc] at h2
      have f := Rel.freeze (R₁ := σ.zip ρ ++ τ) (R₂ := []) (nx x List.mem_cons_self) h2
      exact ⟨_, .cons (f.rep (some v, .sh x.dat) (by simp)) (h1.mono (join_l _ _)), f.sublist (List.sublist_append_left _ _)⟩
/-- [a, b, ..]: a list of one's own, its items told still -/
def wLst (wa : DT (List Sl)) : DT Sl := fun ρ Q E => wa ρ (fun xs ρ1 => ∀ p, Q (.ow p (datas xs)) ρ1) E
def wTup (wa : DT (List Sl)) : DT Sl := fun ρ Q E => wa ρ (fun xs ρ1 => Q (.sh (.tup (datas xs))) ρ1) E
theorem de_lst (ha : DA G X es wr) (hz : es.length ≤ 1000 := by decide) : DE G X (.List es pos) (wLst wr) := by
  refine ⟨fun _ _ _ _ _ hq he q => ha.mono (fun xs ρ1 k p => hq _ _ (k p)) he q, pe_weak (pe_lst ha.pa) fun σ H Q h => ?_⟩
  obtain ⟨ρ, τ, hA, hw⟩ := h
  refine ⟨ρ, τ, hA, ha.mono (fun xs ρ1 k nxs ln l vs H1 lv A1 => ?_) (fun _ _ e => e) hw⟩
  obtain ⟨B, h1, h2⟩ := A1.stills lv nxs
  exact ⟨by rw [lv, ln, sizeLine_eq]; omega, fun p hp => k p (fun z => by cases z) l _ _ (At.addOw A1.len h2 hp h1)⟩
theorem de_tup {x1 : Nat} (ha : DA G X es wr) (hz : es.length ≤ 1000 := by decide) : DE G X (.Tuple es x1 pos) (wTup wr) := by
  refine ⟨fun _ _ _ _ _ hq he q => ha.mono (fun xs ρ1 k => hq _ _ k) he q, pe_weak (pe_tup ha.pa) fun σ H Q h => ?_⟩
  obtain ⟨ρ, τ, hA, hw⟩ := h
  refine ⟨ρ, τ, hA, ha.mono (fun xs ρ1 k nxs ln l vs H1 lv A1 => ?_) (fun _ _ e => e) hw⟩
  obtain ⟨B, h1, h2⟩ := A1.stills lv nxs
  exact ⟨by rw [lv, ln, sizeLine_eq]; omega, fun p hp => k (fun z => by cases z) l _ _ (At.addNew A1.len h2 hp fun B' e1 e2 => .tup (.inl (.inl e2)) (h1.mono e1))⟩
end

/-! ### what a def promises, by data; calls -/
abbrev DW1 := List D → (Sl → Prop) → (Er → Prop) → Prop
def MonoW (W : DW1) : Prop := ∀ ⦃ds : List D⦄ ⦃Q Q' : Sl → Prop⦄ ⦃E E' : Er → Prop⦄, (∀ x, Q x → Q' x) → (∀ e, E e → E' e) → W ds Q E → W ds Q' E'
def spD (K : PySem.W.Frag) (n : Nat) (W : DW1) : Sp := fun vs H Q E => ∃ (so : Option Addr) (B : Hp) (ds : List D), ds.length = n ∧ Same B H ∧ (∀ s, so = some s → B s = none ∧ StoreAt K B H s) ∧ Rps K so B vs ds ∧
  W ds (fun x => x ≠ .un → ∀ v H', RelE ⟨K, so, B, H, fun _ => E⟩ [(some v, x)] H' → Q v H') (fun e => ∀ B' cls d H', Rel ⟨K, so, B, H, fun _ => E⟩ [] H' B' → RepX K so B' cls d e → E cls d H')
/-- a def that is called by its name -/
structure FD (P : Program) (w : World) (K : PySem.W.Frag) (mg : Str → Option Value) (base : Heap) (k : Nat) (x : Str) (n : Nat) (W : DW1) : Prop where
  mono : MonoW W
  ex : ∃ (f : Addr) (fd : FuncData) (ps : List Str), ps.length = n ∧ mg x = some (.ref f) ∧ PySem.W.keepIn K (.ref f) = true ∧ FnOk P w K mg base (L2N.CX P w) k f fd ps (spD K n W) ∧ Binds K fd ps []
def wCall (W : DW1) (wa : DT (List Sl)) : DT Sl := fun ρ Q E => wa ρ (fun xs ρ1 => W (datas xs) (fun z => Q z ρ1) (fun e => E e ρ1)) E
theorem wCall_mono {W : DW1} {wa : DT (List Sl)} (hW : MonoW W) (ha : Mono wa) : Mono (wCall W wa) := fun _ _ _ _ _ hq he q => ha (fun xs ρ1 k => hW (fun z => hq _ _) (fun e => he _ _) k) he q
section
variable {G : Gx} {X : Cx} {e : Expr} {es : List Expr} {wr : DT (List Sl)} {p pos : Pos} {x : Str} {k n : Nat} {W : DW1}
/-- what is behind a call that was handed still things -/
theorem call_ends {σ : St} {ρ : DEnv} {τ : Roots} {H B : Hp} {Q : VK} {vs : List V} {ds : List D} (hW : MonoW W) (l : ρ.length = σ.length) (ln : ds.length = n) (hr : Rel G (σ.zip ρ ++ τ) H B) (hv : Rps G.K G.so B vs ds)
    (h : W ds (fun z => z ≠ .un → ∀ v H', At G σ ρ (τ ++ [(some v, z)]) H' → Q v H') (fun e => xw G τ e ρ)) : spD G.K n W vs H Q (G.EX σ) := by
  refine ⟨G.so, B, ds, ln, hr.hi, hr.st, hv, hW (fun z k nz v H' q => ?a) (fun e k B' cls d H' q hx => ?b) h⟩
  case a =>
    obtain ⟨B', q⟩ := q
    exact k nz v H' ⟨l, B', by rw [← List.append_assoc]; exact hr.after q⟩
  case b => exact k σ cls d H' B' l (hr.after0 q) hx
theorem de_call (F : FD X.prog X.w X.K X.mg X.base k x n W) (hr : Room k X.A) (hK : G.K = X.K) (tk : L2N.Takes X fun cls d σ H => G.EX σ cls d H) (ha : DA G X (e :: es) wr) (hn : es.length + 1 = n := by rfl) (hg : Gl X x := by rfl)
    (hdb : (x == ("__debug__" : Str)) = false := by decide) (he : starEach (e :: es) X.env = (false, eval e X.env) :: starEach es X.env := by rfl) (hpl : (backTo pos (starEach es X.env)).any (·.1) = false := by rfl) : DE G X (.Call (.Name x p) (e :: es) [] pos) (wCall W wr) := by
  obtain ⟨hW, f, fd, ps, hp, hm, hk, hF, hB⟩ := F
  refine ⟨wCall_mono hW ha.mono, pe_weak (pe_callS (E := fun σ => G.EX σ) hF hr hg hm hk hB (fun σ => L2N.passAt tk σ) ha.pa hdb he hpl) fun σ H Q h => ?_⟩
  obtain ⟨ρ, τ, hA, hw⟩ := h
  refine ⟨ρ, τ, hA, ha.mono (fun xs ρ1 k nxs ln l vs H1 lv A1 => ?_) (fun _ _ e => e) hw⟩
  obtain ⟨B, h1, h2⟩ := A1.stills lv nxs
  rw [← hK]
  exact call_ends hW A1.len (by unfold datas; rw [List.length_map, ln]; exact hn) h2 h1 (hW (fun z q nz => q nz l) (fun _ q => q) k)
end
end DL
set_option Elab.async false
set_option maxRecDepth 100000
set_option maxHeartbeats 4000000
set_option linter.unusedVariables false
/-! data-level layer, part d: statements, loops, a def's body -/
namespace DL
open PySem PySem.Spec PyProof.Rows L2

structure DEn where
  nx : DEnv → Prop
  rt : Sl → DEnv → Prop
  bk : DEnv → Prop := fun _ => False
  ct : DEnv → Prop := fun _ => False
abbrev DS := DEn → DEnv → EC → Prop
structure DEn.Le (N N' : DEn) : Prop where
  nx : ∀ ρ, N.nx ρ → N'.nx ρ
  rt : ∀ x ρ, N.rt x ρ → N'.rt x ρ
  bk : ∀ ρ, N.bk ρ → N'.bk ρ
  ct : ∀ ρ, N.ct ρ → N'.ct ρ
theorem DEn.Le.refl (D : DEn) : D.Le D := ⟨fun _ h => h, fun _ _ h => h, fun _ h => h, fun _ h => h⟩
def MonoS (w : DS) : Prop := ∀ ⦃ρ : DEnv⦄ ⦃N N' : DEn⦄ ⦃E E' : EC⦄, w N ρ E → N.Le N' → (∀ e ρ', E e ρ' → E' e ρ') → w N' ρ E'
/-- the ends by data: n the number of slots -/
def endsOf (G : Gx) (n : Nat) (τ : Roots) (D : Ends) : DEn where
  nx := fun ρ' => ρ'.length = n → ∀ σ' H', At G σ' ρ' τ H' → D.nx σ' H'
  rt := fun x ρ' => x ≠ .un → ρ'.length = n → ∀ v σ' H', At G σ' ρ' (τ ++ [(some v, x)]) H' → D.rt v H'
  bk := fun ρ' => ρ'.length = n → ∀ σ' H', At G σ' ρ' τ H' → D.bk σ' H'
  ct := fun ρ' => ρ'.length = n → ∀ σ' H', At G σ' ρ' τ H' → D.ct σ' H'
def tS (G : Gx) (w : DS) : TS := fun D σ H => ∃ ρ τ, At G σ ρ τ H ∧ w (endsOf G ρ.length τ D) ρ (xw G τ)
structure DSt (G : Gx) (X : Cx) (st : Stmt) (w : DS) : Prop where
  mono : MonoS w
  ps : PS X st (tS G w)
structure DSs (G : Gx) (X : Cx) (st : List Stmt) (w : DS) : Prop where
  mono : MonoS w
  ps : PSs X st (tS G w)
theorem ps_weak {X : Cx} {st : Stmt} {t t' : TS} (h : PS X st t) (k : ∀ D σ H, t' D σ H → t D σ H) : PS X st t' := ⟨fun pins s σ H D I q => h.run pins s σ H D I (k D σ H q)⟩
theorem pss_weak {X : Cx} {st : List Stmt} {t t' : TS} (h : PSs X st t) (k : ∀ D σ H, t' D σ H → t D σ H) : PSs X st t' := ⟨fun pins s σ H D I q => h.run pins s σ H D I (k D σ H q)⟩

/-! ### blocks, small statements -/
def wNext : DS := fun D ρ _ => D.nx ρ
def wSeq (w u : DS) : DS := fun D ρ E => w { D with nx := fun ρ' => u D ρ' E } ρ E
def wRet (w : DT Sl) : DS := fun D ρ E => w ρ (fun x ρ1 => D.rt x ρ1) E
def wRetN : DS := fun D ρ _ => D.rt (.sh .non) ρ
def wDrop (w : DT Sl) : DS := fun D ρ E => w ρ (fun _ ρ1 => D.nx ρ1) E
def wBreak : DS := fun D ρ _ => D.bk ρ
def wCont : DS := fun D ρ _ => D.ct ρ
def wIf (c : DT Bool) (t u : DS) : DS := fun D ρ E => c ρ (fun b ρ1 => if b = true then t D ρ1 E else u D ρ1 E) E
def wSet (i : Nat) (w : DT Sl) : DS := fun D ρ E => w ρ (fun x ρ1 => D.nx (ρ1.set i x)) E
section
variable {G : Gx} {X : Cx} {st : Stmt} {rest : List Stmt} {t u : DS} {e : Expr} {w : DT Sl} {pos : Pos}
theorem wSeq_mono (ht : MonoS t) (hu : MonoS u) : MonoS (wSeq t u) := fun _ _ _ _ _ h hd he => ht h ⟨fun ρ k => hu k hd he, hd.rt, hd.bk, hd.ct⟩ he
theorem dss_nil : DSs G X [] wNext := ⟨fun _ _ _ _ _ h hd _ => hd.nx _ h, pss_weak pss_nil fun D σ H h => by
  obtain ⟨ρ, τ, hA, hw⟩ := h
  exact hw rfl σ H hA⟩
theorem dss_cons (h1 : DSt G X st t) (h2 : DSs G X rest u) : DSs G X (st :: rest) (wSeq t u) := by
  refine ⟨wSeq_mono h1.mono h2.mono, pss_weak (pss_cons h1.ps h2.ps) fun D σ H h => ?_⟩
  obtain ⟨ρ, τ, hA, hw⟩ := h
  refine ⟨ρ, τ, hA, h1.mono hw ⟨fun ρ' k l σ' H' A' => ?_, fun _ _ k => k, fun _ k => k, fun _ k => k⟩ (fun _ _ k => k)⟩
  exact ⟨ρ', τ, A', by rw [l]; exact k⟩
theorem ds_break : DSt G X (.Break pos) wBreak := ⟨fun _ _ _ _ _ h hd _ => hd.bk _ h, ps_weak ps_break fun D σ H h => by
  obtain ⟨ρ, τ, hA, hw⟩ := h
  exact hw rfl σ H hA⟩
theorem ds_ret (he : DE G X e w) : DSt G X (.Return (some e) pos) (wRet w) := by
  refine ⟨fun _ _ _ _ _ q hd h => he.mono (fun x ρ1 k => hd.rt x ρ1 k) h q, ps_weak (ps_ret he.pe) fun D σ H h => ?_⟩
  obtain ⟨ρ, τ, hA, hw⟩ := h
  refine ⟨ρ, τ, hA, he.mono (fun x ρ1 k nx l v H1 A1 => ?_) (fun _ _ k => k) hw⟩
  exact k nx l v σ H1 A1
theorem ds_expr (he : DE G X e w) (hs : swapsWith e none pos.line X.env = pure false := by rfl) : DSt G X (.Expr e pos) (wDrop w) := by
  refine ⟨fun _ _ _ _ _ q hd h => he.mono (fun x _ k => hd.nx _ k) h q, ps_weak (ps_expr he.pe hs) fun D σ H h => ?_⟩
  obtain ⟨ρ, τ, hA, hw⟩ := h
  exact ⟨ρ, τ, hA, he.mono (fun x ρ1 k nx l v H1 A1 => k l σ H1 A1.drop) (fun _ _ k => k) hw⟩
theorem ds_if {c : Expr} {a b : List Stmt} {wc : DT Bool} (hc : DB G X c wc) (ha : DSs G X a t) (hb : DSs G X b u) : DSt G X (.If c a b pos) (wIf wc t u) := by
  refine ⟨fun _ _ _ _ _ q hd h => hc.mono (fun b ρ1 k => ?_) h q, ps_weak (ps_if hc.pt ha.ps hb.ps) fun D σ H h => ?_⟩
  · by_cases z : b = true
    · rw [if_pos z] at k ⊢; exact ha.mono k hd h
    · rw [if_neg z] at k ⊢; exact hb.mono k hd h
  · obtain ⟨ρ, τ, hA, hw⟩ := h
    refine ⟨ρ, τ, hA, hc.mono (fun b ρ1 k l H1 A1 => ?_) (fun _ _ k => k) hw⟩
    by_cases z : b = true
    · rw [if_pos z] at k ⊢; exact ⟨ρ1, τ, A1, by rw [l]; exact k⟩
    · rw [if_neg z] at k ⊢; exact ⟨ρ1, τ, A1, by rw [l]; exact k⟩
theorem set_zip : ∀ {σ : St} {ρ : DEnv} {i : Nat} {v : Option V} {x : Sl}, (σ.set i v).zip (ρ.set i x) = (σ.zip ρ).set i (v, x)
  | [], _, _, _, _ => by simp
  | _ :: _, [], _, _, _ => by simp
  | s :: σ, r :: ρ, 0, v, x => rfl
  | s :: σ, r :: ρ, i + 1, v, x => by
    show (s, r) :: (σ.set i v).zip (ρ.set i x) = (s, r) :: (σ.zip ρ).set i (v, x)
    rw [set_zip]
/-- the last root goes to a name -/
theorem At.store {σ : St} {ρ : DEnv} {τ : Roots} {H : Hp} {v : V} {x : Sl} (i : Nat) (h : At G σ ρ (τ ++ [(some v, x)]) H) : At G (σ.set i (some v)) (ρ.set i x) τ H := by
  refine ⟨by rw [List.length_set, List.length_set]; exact h.len, ?_⟩
  obtain ⟨B, hr⟩ := h.rel
  by_cases hi : i < ρ.length
  · obtain ⟨L, R, u, h1, h2, h3⟩ := zip_split h.len (List.getElem?_eq_getElem hi)
    have e : (σ.zip ρ).set i (some v, x) = L ++ (some v, x) :: R := by
      have hl : L.length = i := by
        have e1 := h3 .un
        have e2 : (σ.zip (ρ.set i .un))[L.length]? = some (u, .un) := by rw [e1]; simp
        have hlt : L.length < (σ.zip ρ).length := by rw [h2]; simp
        have hlt2 : L.length < ρ.length := by
          rw [List.length_zip] at hlt; omega
        have key : ∀ (σ : St) (ρ : DEnv) (i : Nat) (x : Sl), ρ.length = σ.length → ρ[i]? = some x → ∀ (L R : Roots) (v : Option V), (∀ y, σ.zip (ρ.set i y) = L ++ (v, y) :: R) → L.length = i := by
          intro σ ρ i x l e L R v hy
          have a1 : (σ.zip (ρ.set i .un))[L.length]? = some (v, .un) := by rw [hy]; simp
          have a2 : (σ.zip (ρ.set i (.sh .non)))[L.length]? = some (v, .sh .non) := by rw [hy]; simp
          by_cases q : L.length = i
          · exact q
          · have b1 : (ρ.set i .un)[L.length]? = ρ[L.length]? := List.getElem?_set_ne (Ne.symm q)
            have b2 : (ρ.set i (.sh .non))[L.length]? = ρ[L.length]? := List.getElem?_set_ne (Ne.symm q)
            rw [List.getElem?_zip_eq_some] at a1 a2
            have c1 := a1.2
            have c2 := a2.2
            rw [b1] at c1; rw [b2, c1] at c2
            cases c2
        exact key σ ρ i _ h.len (List.getElem?_eq_getElem hi) L R u h3
      rw [h2, List.set_append_right _ _ (by omega), hl, Nat.sub_self]
      rfl
    refine ⟨B, ?_⟩
    rw [set_zip, e]
    rw [h2] at hr
    have s1 := hr.sublist (R' := (L ++ R) ++ (τ ++ [(some v, x)])) (List.Sublist.append (List.Sublist.append (List.Sublist.refl _) (List.sublist_cons_self _ _)) (List.Sublist.refl _))
    refine s1.perm (fun r hr => ?_) ?_
    · simp only [List.mem_append, List.mem_cons, List.not_mem_nil, or_false] at hr ⊢
      rcases hr with (hr | hr | hr) | hr
      · exact .inl (.inl hr)
      · exact .inr (.inr hr)
      · exact .inl (.inr hr)
      · exact .inr (.inl hr)
    · rw [feet_append, feet_append, feet_append, feet_append, feet_append, feet_cons, feet_one]
      have p1 : (feet L ++ (x.foot ++ feet R) ++ feet τ).Perm (feet L ++ (feet R ++ feet τ ++ x.foot)) := by
        rw [List.append_assoc, List.append_assoc]
        refine List.Perm.append_left _ ?_
        have q1 : (x.foot ++ (feet R ++ feet τ)).Perm ((feet R ++ feet τ) ++ x.foot) := List.perm_append_comm
        simpa only [List.append_assoc] using q1
      refine p1.trans ?_
      simp only [List.append_assoc]
      exact List.Perm.refl _
  · have e1 : ρ.set i x = ρ := List.set_eq_of_length_le (by omega)
    have e2 : σ.set i (some v) = σ := List.set_eq_of_length_le (by have := h.len; omega)
    rw [e1, e2]
    exact ⟨B, hr.sublist (by rw [← List.append_assoc]; exact List.sublist_append_left _ _)⟩
theorem ds_set (i : Nat) {x : Str} {pos' : Pos} (hN : X.N.Nodup) (he : DE G X e w) (hi : X.N[i]? = some x := by rfl) (hx : Loc X.env.scope x := by first | exact Or.inl rfl | exact Or.inr rfl) (hs : swapsWith e (some (.Name x pos')) pos.line X.env = pure false := by rfl)
    (hf : X.fn x = true ∨ X.env.scope.names.lookup x = some .local := by first | exact .inl rfl | exact .inr rfl) : DSt G X (.Assign [.Name x pos'] e pos) (wSet i w) := by
  refine ⟨fun _ _ _ _ _ q hd h => he.mono (fun x _ k => hd.nx _ k) h q, ps_weak (ps_set hN hi hx he.pe hs hf) fun D σ H h => ?_⟩
  obtain ⟨ρ, τ, hA, hw⟩ := h
  exact ⟨ρ, τ, hA, he.mono (fun x ρ1 k nx l v H1 A1 => k (by rw [List.length_set]; exact l) _ H1 (A1.store i)) (fun _ _ k => k) hw⟩
/-- a, b = x, y with plain names -/
def wPar (i j : Nat) (w : DT (List Sl)) : DS := fun D ρ E => w ρ (fun xs ρ1 => match xs with
  | [x, y] => D.nx ((ρ1.set i (.sh x.dat)).set j (.sh y.dat))
  | _ => False) E
end

/-! ### while -/
section
variable {G : Gx} {X : Cx} {pos : Pos}
end

/-! ### for -/
/-- J yields the items, over the roots τ -/
def Srv (G : Gx) (J : It) (t : Roots) (items : List D) : Prop := ∀ (i : Nat) (R : Roots) (H B : Hp), Rel G (R ++ t) H B →
  (∀ d, items[i]? = some d → J.go i H ∧ ∀ x H', J.yld i H x H' → ∃ B', Rel G (R ++ t) H' B' ∧ Rp G.K G.so B' x d) ∧ (items.length ≤ i → J.stop i H)
def tDI (G : Gx) (w : DT (List D)) : TI := fun σ H R => ∃ ρ τ, At G σ ρ τ H ∧ w ρ (fun items ρ1 => ρ1.length = ρ.length → ∀ J t H', At G σ ρ1 (τ ++ t) H' → Srv G J t items → R J H') (xw G τ)
structure DI (G : Gx) (X : Cx) (tg iter : Expr) (w : DT (List D)) : Prop where
  mono : Mono w
  pi : ∃ t, PI X tg iter t ∧ ∀ σ H R, tDI G w σ H R → t σ H R
/-- a target -/
abbrev DG := D → DEnv → (DEnv → Prop) → Prop
def MonoG (g : DG) : Prop := ∀ ⦃d : D⦄ ⦃ρ : DEnv⦄ ⦃Q Q' : DEnv → Prop⦄, (∀ ρ, Q ρ → Q' ρ) → g d ρ Q → g d ρ Q'
structure DTg (G : Gx) (X : Cx) (tg : Expr) (g : DG) : Prop where
  mono : MonoG g
  pg : ∃ t, PG X tg t ∧ ∀ (v : V) (d : D) (σ : St) (ρ : DEnv) (τ : Roots) (H B : Hp) (Q : St → Hp → Prop), ρ.length = σ.length → Rel G (σ.zip ρ ++ τ) H B → Rp G.K G.so B v d →
    g d ρ (fun ρ' => ρ'.length = ρ.length → ∀ σ' H', σ'.length = σ.length → At G σ' ρ' τ H' → Q σ' H') → t v σ H Q
def dgName (i : Nat) : DG := fun d ρ Q => Q (ρ.set i (.sh d))
/-- the turns -/
def forD (g : DG) (b : DS) (N : DEn) (E : EC) : List D → DEnv → Prop
  | [], ρ => N.nx ρ
  | d :: ds, ρ => g d ρ fun ρ' => b { N with nx := fun ρ2 => forD g b N E ds ρ2, ct := fun ρ2 => forD g b N E ds ρ2, bk := N.nx } ρ' E
def wFor (w : DT (List D)) (g : DG) (b : DS) : DS := fun D ρ E => w ρ (fun items ρ1 => forD g b D E items ρ1) E
theorem forD_mono {g : DG} {b : DS} (hg : MonoG g) (hb : MonoS b) {N N' : DEn} {E E' : EC} (hd : N.Le N') (he : ∀ e ρ, E e ρ → E' e ρ) : ∀ (ds : List D) (ρ : DEnv), forD g b N E ds ρ → forD g b N' E' ds ρ
  | [], ρ, h => hd.nx _ h
  | d :: ds, ρ, h => hg (fun ρ' k => hb (N := { N with nx := fun ρ2 => forD g b N E ds ρ2, ct := fun ρ2 => forD g b N E ds ρ2, bk := N.nx }) k ⟨fun ρ2 k2 => forD_mono hg hb hd he ds ρ2 k2, hd.rt, hd.nx, fun ρ2 k2 => forD_mono hg hb hd he ds ρ2 k2⟩ he) h
section
variable {G : Gx} {X : Cx} {pos : Pos}
theorem dg_name (i : Nat) {x : Str} (hN : X.N.Nodup) (hi : X.N[i]? = some x := by rfl) (hx : Loc X.env.scope x := by first | exact Or.inl rfl | exact Or.inr rfl) (hf : X.fn x = true ∨ X.env.scope.names.lookup x = some .local := by first | exact .inl rfl | exact .inr rfl) : DTg G X (.Name x pos) (dgName i) := by
  refine ⟨fun _ _ _ _ hq h => hq _ h, _, pg_name hN hi hx hf, fun v d σ ρ τ H B Q l hr hv h => ?_⟩
  exact h (by rw [List.length_set]) _ H (by rw [List.length_set]) ((At.addSh l hr hv).store i)
theorem ds_for {tg iter : Expr} {body : List Stmt} {w : DT (List D)} {g : DG} {b : DS} (hp : PassesOwn (model X.prog X.w) X.A X.env X.xe) (hc : X.calm = true) (hi : DI G X tg iter w) (hg : DTg G X tg g) (hb : DSs G X body b)
    (hs : ∀ x, foldedSetIterable iter X.env x = pure x := by intro _; rfl) : DSt G X (.For tg iter body [] pos) (wFor w g b) := by
  obtain ⟨ti, hti, qi⟩ := hi.pi
  obtain ⟨tg', htg, qg⟩ := hg.pg
  refine ⟨fun ρ D D' E E' h hd he => hi.mono (fun items ρ1 k => forD_mono hg.mono hb.mono hd he items ρ1 k) he h, ps_weak (ps_for hp hc hti htg hb.ps hs) fun D σ H h => qi σ H _ ?_⟩
  obtain ⟨ρ, τ, hA, hw⟩ := h
  refine ⟨ρ, τ, hA, hi.mono (fun items ρ1 k l1 J t H1 A1 hJ => ?_) (fun _ _ k => k) hw⟩
  have pend : endsOf G ρ.length τ D = endsOf G ρ1.length τ D := by rw [l1]
  rw [pend] at k
  refine ⟨fun i m σ' H' => m = items.length - i ∧ i ≤ items.length ∧ ∃ ρ', ρ'.length = ρ1.length ∧ At G σ' ρ' (τ ++ t) H' ∧ forD g b (endsOf G ρ1.length τ D) (xw G τ) (items.drop i) ρ', ⟨items.length, rfl, Nat.zero_le _, ρ1, rfl, A1, k⟩, ?_⟩
  rintro i m σ' H' ⟨rfl, hi', ρ', l', A', k'⟩
  obtain ⟨B', r'⟩ := A'.rel
  rw [← List.append_assoc] at r'
  obtain ⟨go, stop⟩ := hJ i (σ'.zip ρ' ++ τ) H' B' r'
  by_cases hlt : i < items.length
  · right
    obtain ⟨g1, g2⟩ := go items[i] (List.getElem?_eq_getElem hlt)
    refine ⟨g1, fun σ2 H2 => ∃ ρ2, ρ2.length = ρ1.length ∧ At G σ2 ρ2 (τ ++ t) H2 ∧ forD g b (endsOf G ρ1.length τ D) (xw G τ) (items.drop (i + 1)) ρ2,
      fun σ2 H2 ⟨ρ2, l2, A2, k2⟩ => ⟨items.length - (i + 1), by omega, rfl, hlt, ρ2, l2, A2, k2⟩, fun x H2 hy => ?_⟩
    obtain ⟨B2, r2, hx⟩ := g2 x H2 hy
    rw [List.drop_eq_getElem_cons hlt] at k'
    refine qg x items[i] σ' ρ' (τ ++ t) H2 B2 _ A'.len (by rw [← List.append_assoc]; exact r2) hx (hg.mono (fun ρ3 k3 l3 σ3 H3 ls3 A3 => ?_) k')
    refine ⟨ρ3, τ ++ t, A3, hb.mono k3 ⟨fun ρ4 k4 l4 σ4 H4 A4 => ⟨ρ4, l4.trans (l3.trans l'), A4, k4⟩, fun y ρ4 k4 ny l4 v σ4 H4 A4 => ?_, fun ρ4 k4 l4 σ4 H4 A4 => k4 (l4.trans (l3.trans l')) σ4 H4 A4.drop, fun ρ4 k4 l4 σ4 H4 A4 => ⟨ρ4, l4.trans (l3.trans l'), A4, k4⟩⟩ xw_app⟩
    obtain ⟨B4, r4⟩ := A4.rel
    exact k4 ny (l4.trans (l3.trans l')) v σ4 H4 ⟨A4.len, B4, r4.sublist (by rw [List.append_assoc]; exact List.Sublist.append (List.Sublist.refl _) (List.Sublist.append (List.Sublist.refl _) (List.sublist_append_right _ _)))⟩
  · left
    have e : i = items.length := by omega
    subst e
    rw [List.drop_length] at k'
    exact ⟨stop (Nat.le_refl _), k' l' σ' H' A'.drop⟩
def wItemsL (w : DT Sl) : DT (List D) := fun ρ Q E => w ρ (fun x ρ1 => match x.dat with
  | .lst ds => Q ds ρ1
  | _ => False) E
def wItemsT (w : DT Sl) : DT (List D) := fun ρ Q E => w ρ (fun x ρ1 => match x.dat with
  | .tup ds => Q ds ρ1
  | _ => False) E
theorem srv_list {a : Addr} {ds : List D} : Srv G (Itl G.K a) [(some (.ref a), .sh (.lst ds))] ds := by
  intro i R H B hr
  have q : Rp G.K G.so B (.ref a) (.lst ds) := hr.rep (some (.ref a), .sh (.lst ds)) (by simp)
  cases q with
  | lst hs hv =>
    have hsH : SqL G.K H a _ := .inl (.inl (hr.hi _ _ hs))
    refine ⟨fun d e => ?_, fun hl => ⟨_, hsH, by rw [hv.len]; exact hl⟩⟩
    obtain ⟨v, e1, e2⟩ := hv.get e
    refine ⟨⟨_, v, hsH, e1⟩, fun x H' hy => ?_⟩
    obtain ⟨rfl, hy⟩ := hy
    have e3 := hy _ hsH
    rw [e1] at e3
    cases e3
    exact ⟨B, hr, e2⟩
theorem srv_tup {a : Addr} {ds : List D} : Srv G (Itt G.K a) [(some (.ref a), .sh (.tup ds))] ds := by
  intro i R H B hr
  have q : Rp G.K G.so B (.ref a) (.tup ds) := hr.rep (some (.ref a), .sh (.tup ds)) (by simp)
  cases q with
  | tup hs hv =>
    have hsH := sqT_same hr.hi hs
    refine ⟨fun d e => ?_, fun hl => ⟨_, hsH, by rw [hv.len]; exact hl⟩⟩
    obtain ⟨v, e1, e2⟩ := hv.get e
    refine ⟨⟨_, v, hsH, e1⟩, fun x H' hy => ?_⟩
    obtain ⟨rfl, hy⟩ := hy
    have e3 := hy _ hsH
    rw [e1] at e3
    cases e3
    exact ⟨B, hr, e2⟩
/-- the items of a list of ints told by the library's word -/
def wItemsS (w : DT Sl) : DT (List D) := fun ρ Q E => w ρ (fun x ρ1 => match x.dat with
  | .scr ns => Q (ns.map D.int) ρ1
  | _ => False) E
theorem wItemsS_mono {w : DT Sl} (h : Mono w) : Mono (wItemsS w) := fun _ _ _ _ _ hq he q => h (fun x ρ1 k => by
  split at k
  · exact hq _ _ k
  · exact k.elim) he q
theorem srv_scr {a : Addr} {ns : List Int} : Srv G (Itl G.K a) [(some (.ref a), .sh (.scr ns))] (ns.map D.int) := by
  intro i R H B hr
  have q : Rp G.K G.so B (.ref a) (.scr ns) := hr.rep (some (.ref a), .sh (.scr ns)) (by simp)
  cases q with
  | scr hs =>
    have hsH := hr.hi.seq hs
    refine ⟨fun d e => ?_, fun hl => ⟨_, hsH, by simpa using hl⟩⟩
    rw [List.getElem?_map, Option.map_eq_some_iff] at e
    obtain ⟨k, e1, e2⟩ := e
    subst e2
    have e3 : (ns.map V.int)[i]? = some (V.int k) := by rw [List.getElem?_map, e1]; rfl
    refine ⟨⟨_, _, hsH, e3⟩, fun x H' hy => ?_⟩
    obtain ⟨rfl, hy⟩ := hy
    have e4 := hy _ hsH
    rw [e3] at e4
    cases e4
    exact ⟨B, hr, .int k⟩
theorem wItemsL_mono {w : DT Sl} (h : Mono w) : Mono (wItemsL w) := fun _ _ _ _ _ hq he q => h (fun x ρ1 k => by
  split at k
  · exact hq _ _ k
  · exact k.elim) he q
theorem wItemsT_mono {w : DT Sl} (h : Mono w) : Mono (wItemsT w) := fun _ _ _ _ _ hq he q => h (fun x ρ1 k => by
  split at k
  · exact hq _ _ k
  · exact k.elim) he q
theorem di_list {tg l : Expr} {w : DT Sl} (hK : G.K = X.K) (h : DE G X l w) : DI G X tg l (wItemsL w) := by
  refine ⟨wItemsL_mono h.mono, _, pi_list h.pe, fun σ H R q => ?_⟩
  obtain ⟨ρ, τ, hA, hw⟩ := q
  refine ⟨ρ, τ, hA, h.mono (fun x ρ1 k nx l1 v H1 A1 => ?_) (fun _ _ k => k) hw⟩
  obtain ⟨B, h1, h2⟩ := A1.still nx
  split at k
  · rename_i ds e
    rw [e] at h1
    cases h1 with
    | @lst a vs _ hs hv =>
      refine ⟨a, rfl, ⟨_, .inl (.inl (h2.hi _ _ hs))⟩, ?_⟩
      rw [← hK]
      exact k l1 _ _ H1 (At.addSh A1.len h2 (.lst hs hv)) srv_list
  · exact k.elim
theorem di_scr {tg l : Expr} {w : DT Sl} (hK : G.K = X.K) (h : DE G X l w) : DI G X tg l (wItemsS w) := by
  refine ⟨wItemsS_mono h.mono, _, pi_list h.pe, fun σ H R q => ?_⟩
  obtain ⟨ρ, τ, hA, hw⟩ := q
  refine ⟨ρ, τ, hA, h.mono (fun x ρ1 k nx l1 v H1 A1 => ?_) (fun _ _ k => k) hw⟩
  obtain ⟨B, h1, h2⟩ := A1.still nx
  split at k
  · rename_i ns e
    rw [e] at h1
    cases h1 with
    | @scr a _ hs =>
      refine ⟨a, rfl, ⟨_, hK ▸ h2.hi.seq hs⟩, ?_⟩
      rw [← hK]
      exact k l1 _ _ H1 (At.addSh A1.len h2 (.scr hs)) srv_scr
  · exact k.elim
theorem di_tup {tg l : Expr} {w : DT Sl} (hK : G.K = X.K) (h : DE G X l w) : DI G X tg l (wItemsT w) := by
  refine ⟨wItemsT_mono h.mono, _, pi_tup h.pe, fun σ H R q => ?_⟩
  obtain ⟨ρ, τ, hA, hw⟩ := q
  refine ⟨ρ, τ, hA, h.mono (fun x ρ1 k nx l1 v H1 A1 => ?_) (fun _ _ k => k) hw⟩
  obtain ⟨B, h1, h2⟩ := A1.still nx
  split at k
  · rename_i ds e
    rw [e] at h1
    cases h1 with
    | @tup a vs _ hs hv =>
      refine ⟨a, rfl, ⟨_, hK ▸ sqT_same h2.hi hs⟩, ?_⟩
      rw [← hK]
      exact k l1 _ _ H1 (At.addSh A1.len h2 (.tup hs hv)) srv_tup
  · exact k.elim
/-- lo, lo + 1, .. -/
def rangeD (lo : Int) (n : Nat) : List D := (List.range n).map fun (i : Nat) => D.int (lo + (i : Int))
theorem rangeD_get {lo : Int} {n i : Nat} : (rangeD lo n)[i]? = if i < n then some (D.int (lo + (i : Int))) else none := by
  unfold rangeD
  rw [List.getElem?_map]
  by_cases hi : i < n
  · rw [if_pos hi, List.getElem?_eq_getElem (by simpa using hi)]
    simp
  · rw [if_neg hi, List.getElem?_eq_none (by simpa using hi)]
    rfl
theorem rangeD_len {lo : Int} {n : Nat} : (rangeD lo n).length = n := by unfold rangeD; simp
theorem srv_range {lo : Int} {n : Nat} : Srv G (Itr lo n) [] (rangeD lo n) := by
  intro i R H B hr
  refine ⟨fun d e => ?_, fun hl => by rw [rangeD_len] at hl; exact hl⟩
  rw [rangeD_get] at e
  by_cases hi : i < n
  · rw [if_pos hi] at e
    have e2 : D.int (lo + i) = d := by simpa using e
    subst e2
    exact ⟨hi, fun x H' hy => by
      obtain ⟨rfl, rfl⟩ := hy
      exact ⟨B, hr, .int _⟩⟩
  · rw [if_neg hi] at e; cases e
def wRng1 (w : DT (List Sl)) : DT (List D) := fun ρ Q E => w ρ (fun xs ρ1 => match datas xs with
  | [.int j] => (-(2 ^ 62) ≤ j ∧ j < 2 ^ 62) ∧ Q (rangeD 0 j.toNat) ρ1
  | _ => False) E
def wRng2 (w : DT (List Sl)) : DT (List D) := fun ρ Q E => w ρ (fun xs ρ1 => match datas xs with
  | [.int i, .int j] => (-(2 ^ 62) ≤ i ∧ i < 2 ^ 62 ∧ -(2 ^ 62) ≤ j ∧ j < 2 ^ 62) ∧ Q (rangeD i (j - i).toNat) ρ1
  | _ => False) E
theorem wRng1_mono {w : DT (List Sl)} (h : Mono w) : Mono (wRng1 w) := fun _ _ _ _ _ hq he q => h (fun x ρ1 k => by
  split at k
  · exact ⟨k.1, hq _ _ k.2⟩
  · exact k.elim) he q
theorem di_range1 {tg a : Expr} {w : DT (List Sl)} {p : Pos} (hm : X.mg "range" = none) (ha : DA G X [a] w) (hg : Gl X "range" := by rfl) (hs : starEach [a] X.env = [(false, eval a X.env)] := by rfl) : DI G X tg (.Call (.Name "range" p) [a] [] pos) (wRng1 w) := by
  refine ⟨wRng1_mono ha.mono, _, pi_range1 hg hm ha.pa hs, fun σ H R q => ?_⟩
  obtain ⟨ρ, τ, hA, hw⟩ := q
  refine ⟨ρ, τ, hA, ha.mono (fun xs ρ1 k nxs ln l1 vs H1 lv A1 => ?_) (fun _ _ k => k) hw⟩
  obtain ⟨B, h1, h2⟩ := A1.stills lv nxs
  split at k
  · rename_i j e
    rw [e] at h1
    cases h1 with
    | cons q1 q2 =>
      cases q1; cases q2
      exact ⟨j, rfl, k.1.1, k.1.2, k.2 l1 _ [] H1 (by rw [List.append_nil]; exact .mk' A1.len h2) srv_range⟩
  · exact k.elim
end
end DL
set_option Elab.async false
set_option maxRecDepth 100000
set_option maxHeartbeats 4000000
set_option linter.unusedVariables false
/-! data-level layer, part e: a def's body keeps its promise by data -/
namespace DL
open PySem PySem.Spec PyProof.Rows L2

/-- what may be told of a slot instead -/
inductive Cv : Sl → Sl → Prop
  | refl (x : Sl) : Cv x x
  | sh (x : Sl) : x ≠ .un → Cv x (.sh x.dat)
  | ow (p : Addr) (ds : List D) : NoLs ds = true → Cv (.ow p ds) (.dp [p] (.lst ds))
  | leaf (d : D) : NoL d = true → Cv (.sh d) (.dp [] d)
theorem Cv.ne {x y : Sl} (h : Cv x y) (hx : x ≠ .un) : y ≠ .un := by
  cases h with
  | refl => exact hx
  | sh _ => intro z; cases z
  | ow => intro z; cases z
  | leaf => intro z; cases z
theorem Rps.dprs {K : PySem.W.Frag} {so : Option Addr} {B H : Hp} : ∀ {vs : List V} {ds : List D}, Rps K so B vs ds → NoLs ds = true → Dprs K so B H vs ds []
  | _, _, .nil, _ => .nil
  | _, _, .cons (d := d) (ds := ds) h r, n => by
    have n2 : (NoL d && NoLs ds) = true := n
    rw [Bool.and_eq_true] at n2
    exact .cons (F := []) (G := []) (.leaf h n2.1) (Rps.dprs r n2.2)
theorem Cv.rel {x y : Sl} (h : Cv x y) {G : Gx} {R : Roots} {v : V} {H : Hp} (r : RelE G (R ++ [(some v, x)]) H) : RelE G (R ++ [(some v, y)]) H := by
  obtain ⟨B, hr⟩ := r
  cases h with
  | refl => exact ⟨B, hr⟩
  | sh _ n => exact ⟨_, hr.freeze (R₁ := R) (R₂ := []) n⟩
  | ow p ds n =>
    refine ⟨B, hr.lo, hr.hi, hr.fr, hr.nw, fun q hq => ?_, ?_, fun q hq => ?_, hr.st⟩
    · rcases List.mem_append.mp hq with hq | hq
      · exact hr.rep q (List.mem_append_left _ hq)
      · have e : q = (some v, .dp [p] (.lst ds)) := by simpa using hq
        subst e
        obtain ⟨e, vs, h1, h2⟩ : v = .ref p ∧ ∃ vs, H p = some (.lst vs) ∧ Rps G.K G.so B vs ds := hr.rep (some v, .ow p ds) (by simp)
        subst e
        exact .lst h1 (h2.dprs n)
    · have := hr.nd
      rw [feet_append, feet_one] at this ⊢
      exact this
    · have := hr.ap q
      rw [feet_append, feet_one] at this hq
      exact this hq
  | leaf d n =>
    refine ⟨B, hr.lo, hr.hi, hr.fr, hr.nw, fun q hq => ?_, ?_, fun q hq => ?_, hr.st⟩
    · rcases List.mem_append.mp hq with hq | hq
      · exact hr.rep q (List.mem_append_left _ hq)
      · have e : q = (some v, .dp [] d) := by simpa using hq
        subst e
        exact .leaf (show Rp G.K G.so B v d from hr.rep (some v, .sh d) (by simp)) n
    · have := hr.nd
      rw [feet_append, feet_one] at this ⊢
      exact this
    · have := hr.ap q
      rw [feet_append, feet_one] at this hq
      exact this hq
theorem Cv.at {x y : Sl} (h : Cv x y) {G : Gx} {σ : St} {ρ : DEnv} {τ : Roots} {v : V} {H : Hp} (r : At G σ ρ (τ ++ [(some v, x)]) H) : At G σ ρ (τ ++ [(some v, y)]) H := by
  have q := r.rel
  rw [← List.append_assoc] at q
  have z := h.rel q
  rw [List.append_assoc] at z
  exact ⟨r.len, z⟩

/-- the slots at a def's entry -/
def entry (n : Nat) (ds : List D) : DEnv := ds.map Sl.sh ++ List.replicate (n - ds.length) .un
/-- what a body is to reach: the result, perhaps told in another way -/
def bodyEnds (Q : Sl → Prop) : DEn where
  nx := fun _ => ∃ y, Cv (.sh .non) y ∧ Q y
  rt := fun x _ => ∃ y, Cv x y ∧ Q y
theorem start_entry {N : List Str} {vs : List V} {ds : List D} (h : vs.length = ds.length) : (entry N.length ds).length = (start N vs).length := by
  unfold entry L2.start
  simp only [List.length_append, List.length_map, List.length_replicate, h]
section
variable {P : Program} {w : World} {K : PySem.W.Frag} {mg : Str → Option Value} {base : Heap} {x qual : Str} {params : Arguments} {body : List Stmt} {scope : Scope} {dvs : List V} {kws : List (Str × V)} {f : Addr} {fd : FuncData}
/-- the context of a def's body -/
abbrev cxD (P : Program) (w : World) (K : PySem.W.Frag) (mg : Str → Option Value) (base : Heap) (N : List Str) (qual : Str) (scope : Scope) (f : Addr) (cd : Value) (A : Around) (outer : List Env) (s : Shared) (H : Hp) (E : XK) : Cx :=
  cxOf (L2N.CX P w) P w K mg base N qual scope f cd A outer s H E
/-- a body's reading at its entry -/
theorem entry_reads {N : List Str} {vs : List V} {ds : List D} {H B : Hp} {Q : VK} {E : XK} {so : Option Addr} {X : Cx} {body : List Stmt} {wb : DS} {Q' : Sl → Prop} {E' : Er → Prop} (e : Same B H) (st : ∀ s, so = some s → B s = none ∧ StoreAt K B H s) (hv : Rps K so B vs ds) (d : DSs ⟨K, so, B, H, fun _ => E⟩ X body wb)
    (hw : wb (bodyEnds Q') (entry N.length ds) (fun e _ => E' e)) (hQ : ∀ x, Q' x → x ≠ .un → ∀ v H', RelE ⟨K, so, B, H, fun _ => E⟩ [(some v, x)] H' → Q v H')
    (hE : ∀ e, E' e → ∀ B' cls d H', Rel ⟨K, so, B, H, fun _ => E⟩ [] H' B' → RepX K so B' cls d e → E cls d H') :
    tS ⟨K, so, B, H, fun _ => E⟩ wb { nx := fun _ H' => Q .non H', rt := Q } (start N vs) H := by
  refine ⟨entry N.length ds, [], ⟨start_entry hv.len, B, ?_⟩, d.mono hw ⟨fun ρ' ⟨y, c, q⟩ l σ' H' A' => ?_, fun z ρ' ⟨y, c, q⟩ nz l v σ' H' A' => ?_, fun _ z => z.elim, fun _ z => z.elim⟩ (fun er ρ' q σ' cls d' H' B' l r hx => ?_)⟩
  · rw [List.append_nil]
    have key : ∀ (vs : List V) (ds : List D) (n m : Nat), vs.length = ds.length → ((vs.map some ++ List.replicate n none).zip (ds.map Sl.sh ++ List.replicate m Sl.un)) = (vs.map some).zip (ds.map Sl.sh) ++ (List.replicate n none).zip (List.replicate m Sl.un) := by
      intro vs ds n m h
      exact List.zip_append (by simpa using h)
    unfold L2.start entry
    rw [key vs ds _ _ hv.len]
    have f1 : ∀ {vs : List V} {ds : List D}, feet ((vs.map some).zip (ds.map Sl.sh)) = [] := by
      intro vs
      induction vs with
      | nil => intro ds; rfl
      | cons v vs ih =>
        intro ds
        cases ds with
        | nil => rfl
        | cons d ds => exact (show feet ((vs.map some).zip (ds.map Sl.sh)) = [] from ih)
    have f2 : ∀ n m, feet ((List.replicate n (none : Option V)).zip (List.replicate m Sl.un)) = [] := by
      intro n
      induction n with
      | zero => intro m; rfl
      | succ n ih =>
        intro m
        cases m with
        | zero => rfl
        | succ m => exact (show feet ((List.replicate n (none : Option V)).zip (List.replicate m Sl.un)) = [] from ih m)
    refine Rel.entry e (fun r hr => ?_) (by rw [feet_append, f1, f2]; rfl) st
    rcases List.mem_append.mp hr with hr | hr
    · have g1 : ∀ {vs : List V} {ds : List D}, Rps K so B vs ds → ∀ r ∈ (vs.map some).zip (ds.map Sl.sh), RepS K so B H r.1 r.2 := by
        intro vs
        induction vs with
        | nil => intro ds h r hr; cases hr
        | cons v vs ih =>
          intro ds h r hr
          cases h with
          | cons h1 h2 =>
            rcases List.mem_cons.mp hr with rfl | hr
            · exact h1
            · exact ih h2 r hr
      exact g1 hv r hr
    · have g2 : ∀ n m, ∀ r ∈ (List.replicate n (none : Option V)).zip (List.replicate m Sl.un), RepS K so B H r.1 r.2 := by
        intro n
        induction n with
        | zero => intro m r hr; cases hr
        | succ n ih =>
          intro m r hr
          cases m with
          | zero => cases hr
          | succ m =>
            rcases List.mem_cons.mp hr with rfl | hr
            · trivial
            · exact ih m r hr
      exact g2 _ _ r hr
  · obtain ⟨B', r'⟩ := A'.rel
    have r2 : RelE ⟨K, so, B, H, fun _ => E⟩ ([] ++ [(some .non, .sh .non)]) H' := ⟨B', (r'.addSh .non).sublist (List.sublist_append_right _ _)⟩
    exact hQ _ q (c.ne (fun z => by cases z)) .non H' (c.rel r2)
  · obtain ⟨B', r'⟩ := A'.rel
    have r : RelE ⟨K, so, B, H, fun _ => E⟩ ([] ++ [(some v, z)]) H' := ⟨B', r'.sublist (List.sublist_append_right _ _)⟩
    exact hQ _ q (c.ne nz) v H' (c.rel r)
  · exact hE _ q B' cls d' H' (r.sublist (List.nil_sublist _)) hx
theorem fn_body {N ps : List Str} {k : Nat} {W : DW1} (F : FunD K x qual params body scope dvs kws f fd) (S : FnScope N ps scope) (hlen : ∀ ds Q E, W ds Q E → ds.length = ps.length)
    (hb : ∀ (cdv : Value) (A : Around) (outer : List Env) (s : Shared) (H : Hp) (E : XK) (so : Option Addr) (B : Hp), Room k (A.deeper (envOfC qual scope s.heap.objs.size f cdv)) →
      L2N.Takes (cxD P w K mg base N qual scope f cdv A outer s H E) (fun cls d _ H => E cls d H) →
      ∃ wb, DSs ⟨K, so, B, H, fun _ => E⟩ (cxD P w K mg base N qual scope f cdv A outer s H E) body wb ∧ ∀ ds Q E', W ds Q E' → wb (bodyEnds Q) (entry N.length ds) (fun e _ => E' e)) :
    FnOk P w K mg base (L2N.CX P w) (k + 1) f fd ps (spD K ps.length W) := by
  refine F.ok S (fun vs H Q E h => ?_) (fun cdv A outer s H vs Q E hr h => ?_)
  · obtain ⟨so, B, ds, ln, _, _, hv, _⟩ := h
    exact hv.len.trans ln
  · obtain ⟨so, B, ds, ln, e, st, hv, hW⟩ := h
    obtain ⟨wb, d, hw⟩ := hb cdv A outer s H E so B hr (L2N.takes_of rfl rfl rfl rfl)
    exact ⟨_, d.ps, entry_reads e st hv d (hw ds _ _ hW) (fun x h => h) (fun e h => h)⟩
theorem fd_ok {N ps : List Str} {k : Nat} {W : DW1} (hW : MonoW W) (F : FunD K x qual params body scope [] [] f fd) (S : FnScope N ps scope) (hm : mg x = some (.ref f)) (hlen : ∀ ds Q E, W ds Q E → ds.length = ps.length)
    (hbd : ∀ (kV doc pm : Value) (an : Option Addr) (cdv ct : Value) (us : List Value), us.length = ps.length → bindArgs (PySem.W.fnOf x qual params body scope .none kV doc pm an cdv ct) ⟨us, []⟩ = pure (ps.zip us))
    (hb : ∀ (cdv : Value) (A : Around) (outer : List Env) (s : Shared) (H : Hp) (E : XK) (so : Option Addr) (B : Hp), Room k (A.deeper (envOfC qual scope s.heap.objs.size f cdv)) →
      L2N.Takes (cxD P w K mg base N qual scope f cdv A outer s H E) (fun cls d _ H => E cls d H) →
      ∃ wb, DSs ⟨K, so, B, H, fun _ => E⟩ (cxD P w K mg base N qual scope f cdv A outer s H E) body wb ∧ ∀ ds Q E', W ds Q E' → wb (bodyEnds Q) (entry N.length ds) (fun e _ => E' e)) :
    FD P w K mg base (k + 1) x ps.length W := ⟨hW, f, fd, ps, rfl, hm, F.kp, fn_body F S hlen hb, F.bindsN hbd⟩
end
end DL
set_option Elab.async false
set_option maxRecDepth 100000
set_option maxHeartbeats 4000000
set_option linter.unusedVariables false
/-! data-level layer, part f: built-in calls, isinstance, subscripts, list methods -/
namespace DL
open PySem PySem.Spec PyProof.Rows L2

abbrev AO := List D → (Sl → Prop) → Prop
def OpA (G : Gx) (r : List V → Hp → VK → Prop) (ro : AO) : Prop := ∀ (σ : St) (ρ : DEnv) (τ : Roots) (vs : List V) (ds : List D) (H B : Hp) (Q : VK), ρ.length = σ.length → Rel G (σ.zip ρ ++ τ) H B → Rps G.K G.so B vs ds →
  ro ds (fun z => z ≠ .un → ∀ v H', At G σ ρ (τ ++ [(some v, z)]) H' → Q v H') → r vs H Q
def MonoA (ro : AO) : Prop := ∀ ⦃ds : List D⦄ ⦃Q Q' : Sl → Prop⦄, (∀ z, Q z → Q' z) → ro ds Q → ro ds Q'
def wFun (ro : AO) (wa : DT (List Sl)) : DT Sl := fun ρ Q E => wa ρ (fun xs ρ1 => ro (datas xs) fun z => Q z ρ1) E
theorem wFun_mono {ro : AO} {wa : DT (List Sl)} (hm : MonoA ro) (ha : Mono wa) : Mono (wFun ro wa) := fun _ _ _ _ _ hq he q => ha (fun xs ρ1 k => hm (fun z => hq _ _) k) he q
/-- a function of data, where P holds -/
def roF (P : List D → Prop) (f : List D → D) : AO := fun ds Q => P ds ∧ Q (.sh (f ds))
/-- .. whose result is a list of one's own -/
def roL (P : List D → Prop) (f : List D → List D) : AO := fun ds Q => P ds ∧ ∀ p, Q (.ow p (f ds))
theorem roF_mono {P : List D → Prop} {f : List D → D} : MonoA (roF P f) := fun _ _ _ hq h => ⟨h.1, hq _ h.2⟩
theorem roL_mono {P : List D → Prop} {f : List D → List D} : MonoA (roL P f) := fun _ _ _ hq h => ⟨h.1, fun p => hq _ (h.2 p)⟩
section
variable {G : Gx} {X : Cx} {e a b : Expr} {es : List Expr} {wr : DT (List Sl)} {wa wb : DT Sl} {p pos : Pos} {x id T : String}
theorem opa_F {r : List V → Hp → VK → Prop} {P : List D → Prop} {f : List D → D} (h : ∀ (so : Option Addr) (vs : List V) (ds : List D) (H B : Hp) (Q : VK), Same B H → Rps G.K so B vs ds → P ds → (∀ v, Rp G.K so B v (f ds) → Q v H) → r vs H Q) : OpA G r (roF P f) := by
  intro σ ρ τ vs ds H B Q l hr hv q
  exact h G.so vs ds H B Q hr.hi hv q.1 fun v hv => q.2 (fun z => by cases z) v H (At.addSh l hr hv)
theorem opa_L {r : List V → Hp → VK → Prop} {P : List D → Prop} {f : List D → List D} (h : ∀ (so : Option Addr) (vs : List V) (ds : List D) (H B : Hp) (Q : VK), Same B H → Rps G.K so B vs ds → P ds → (∀ p ws, H p = none → Rps G.K so B ws (f ds) → Q (.ref p) (upd H p (.lst ws))) → r vs H Q) : OpA G r (roL P f) := by
  intro σ ρ τ vs ds H B Q l hr hv q
  exact h G.so vs ds H B Q hr.hi hv q.1 fun p ws hp hw => q.2 p (fun z => by cases z) _ _ (At.addOw l hr hp hw)
theorem fun_ends {r : List V → Hp → VK → Prop} {ro : AO} {σ : St} {H : Hp} {Q : VK} {wr : DT (List Sl)} {n : Nat} (hd : OpA G r ro) (hm : MonoA ro) (ha : Mono wr) (h : tD G (wFun ro wr) σ H Q) : tDA G n wr σ H fun vs H1 => r vs H1 Q := by
  obtain ⟨ρ, τ, hA, hw⟩ := h
  refine ⟨ρ, τ, hA, ha (fun xs ρ1 k nxs ln l vs H1 lv A1 => ?_) (fun _ _ e => e) hw⟩
  obtain ⟨B, h1, h2⟩ := A1.stills lv nxs
  exact hd σ ρ1 τ vs _ H1 B Q A1.len h2 h1 (hm (fun z k nz v H' A' => k nz l v H' A') k)
theorem de_callB {x : Str} {r : List V → Hp → VK → Prop} {ro : AO} (hc : CallR X (.builtin id) r) (hd : OpA G r ro) (hm : MonoA ro) (hg : Gl X x) (hmg : X.mg x = none) (hv : bootBuiltins x = some (.builtin id)) (ha : DA G X (e :: es) wr) (hn : x ≠ "__name__" := by decide) (hdb : (x == ("__debug__" : Str)) = false := by decide)
    (he : starEach (e :: es) X.env = (false, eval e X.env) :: starEach es X.env := by rfl) (hpl : (backTo pos (starEach es X.env)).any (·.1) = false := by rfl) : DE G X (.Call (.Name x p) (e :: es) [] pos) (wFun ro wr) :=
  ⟨wFun_mono hm ha.mono, pe_weak (pe_callB hc hg hmg hv ha.pa hn hdb he hpl) fun σ H Q h => fun_ends hd hm ha.mono h⟩
theorem de_callT {x : Str} {r : List V → Hp → VK → Prop} {ro : AO} (hc : CallR X (.type T) r) (hd : OpA G r ro) (hm : MonoA ro) (hg : Gl X x) (hmg : X.mg x = none) (hv : bootBuiltins x = some (.type T)) (ha : DA G X (e :: es) wr) (hn : x ≠ "__name__" := by decide) (hdb : (x == ("__debug__" : Str)) = false := by decide)
    (he : starEach (e :: es) X.env = (false, eval e X.env) :: starEach es X.env := by rfl) (hpl : (backTo pos (starEach es X.env)).any (·.1) = false := by rfl) : DE G X (.Call (.Name x p) (e :: es) [] pos) (wFun ro wr) :=
  ⟨wFun_mono hm ha.mono, pe_weak (pe_callTy hc hg hmg hv ha.pa hn hdb he hpl) fun σ H Q h => fun_ends hd hm ha.mono h⟩

/-! ### abs, min, max, int, len, list, tuple -/
def pInt1 : List D → Prop | [.int _] => True | _ => False
def pInt2 : List D → Prop | [.int _, .int _] => True | _ => False
def fAbs : List D → D | [.int i] => .int (i.natAbs : Int) | _ => .non
def fMin : List D → D | [.int i, .int j] => .int (min i j) | _ => .non
def fMax : List D → D | [.int i, .int j] => .int (max i j) | _ => .non
def pIntOf : List D → Prop | [.int _] => True | [.bl _] => True | _ => False
def fIntOf : List D → D | [.int i] => .int i | [.bl b] => .int (if b then 1 else 0) | _ => .non
def pLen : List D → Prop | [.lst _] => True | [.tup _] => True | [.scr _] => True | [.str z] => z.length ≤ sizeLine | [.dic _ _] => True | _ => False
def fLen : List D → D | [.lst ds] => .int ds.length | [.tup ds] => .int ds.length | [.scr ns] => .int ns.length | [.str z] => .int z.length | [.dic ks _] => .int ks.length | _ => .non
def pSeq : List D → Prop | [.lst _] => True | [.tup _] => True | [.scr _] => True | _ => False
def fSeq : List D → List D | [.lst ds] => ds | [.tup ds] => ds | [.scr ns] => ns.map D.int | _ => []
theorem opa_min : OpA G (fun xs H Q => ∃ i j, xs = [.int i, .int j] ∧ Q (.int (if j < i then j else i)) H) (roF pInt2 fMin) := opa_F fun so vs ds H B Q e hv hp k => by
  unfold pInt2 at hp
  split at hp
  · rename_i i j
    match vs, hv with
    | [_, _], .cons (.int _) (.cons (.int _) .nil) =>
      refine ⟨i, j, rfl, ?_⟩
      have z : (if j < i then j else i) = min i j := by split <;> omega
      rw [z]
      exact k _ (.int _)
  · exact hp.elim
theorem opa_max : OpA G (fun xs H Q => ∃ i j, xs = [.int i, .int j] ∧ Q (.int (if j > i then j else i)) H) (roF pInt2 fMax) := opa_F fun so vs ds H B Q e hv hp k => by
  unfold pInt2 at hp
  split at hp
  · rename_i i j
    match vs, hv with
    | [_, _], .cons (.int _) (.cons (.int _) .nil) =>
      refine ⟨i, j, rfl, ?_⟩
      have z : (if j > i then j else i) = max i j := by split <;> omega
      rw [z]
      exact k _ (.int _)
  · exact hp.elim
theorem opa_int : OpA G (fun xs H Q => (∃ i, xs = [.int i] ∧ Q (.int i) H) ∨ ∃ k, xs = [.bl k] ∧ Q (.int (if k then 1 else 0)) H) (roF pIntOf fIntOf) := opa_F fun so vs ds H B Q e hv hp k => by
  unfold pIntOf at hp
  split at hp
  · match vs, hv with
    | [_], .cons (.int i) .nil => exact .inl ⟨i, rfl, k _ (.int _)⟩
  · match vs, hv with
    | [_], .cons (.bl b) .nil => exact .inr ⟨b, rfl, k _ (.int _)⟩
  · exact hp.elim
theorem call_lenD {X : Cx} : CallR X (.builtin "len") (fun xs H Q => ∃ p kvs, xs = [.ref p] ∧ H p = some (.dK kvs) ∧ Q (.int kvs.length) H) := by
  intro pins s σ H xs us Q I r h
  obtain ⟨p, kvs, rfl, hp, q⟩ := h
  obtain ⟨u, rfl, rx⟩ := vals1 r
  cases rx
  exact d_len I (.inl hp) fun t s' I' => ⟨.int kvs.length, H, I', ⟨t, rfl⟩, q⟩
theorem opa_len : OpA G (fun xs H Q => (∃ x n, xs = [x] ∧ LenV G.K x H n ∧ Q (.int n) H) ∨ ∃ p kvs, xs = [.ref p] ∧ H p = some (.dK kvs) ∧ Q (.int kvs.length) H) (roF pLen fLen) := opa_F fun so vs ds H B Q e hv hp k => by
  unfold pLen at hp
  split at hp
  · match vs, hv with
    | [_], .cons (.lst hs hr) .nil => exact .inl ⟨_, _, rfl, .inl ⟨_, .inl (.inl (e _ _ hs)), rfl⟩, k _ (by rw [hr.len]; exact .int _)⟩
  · match vs, hv with
    | [_], .cons (.tup hs hr) .nil => exact .inl ⟨_, _, rfl, .inr ⟨_, sqT_same e hs, rfl⟩, k _ (by rw [hr.len]; exact .int _)⟩
  · match vs, hv with
    | [_], .cons (.scr (ns := ns) hs) .nil => exact .inl ⟨_, (ns.map V.int).length, rfl, .inl ⟨_, e.seq hs, rfl⟩, k _ (by rw [List.length_map]; exact .int _)⟩
  · match vs, hv with
    | [_], .cons (.str z) .nil => exact .inl ⟨_, _, rfl, ⟨hp, rfl⟩, k _ (.int _)⟩
  · match vs, hv with
    | [_], .cons (.dic (ks := ks) (vs := ws) hs hl hr) .nil => exact .inr ⟨_, _, rfl, e _ _ hs, k _ (by rw [List.length_zip, ← hl, Nat.min_self]; exact .int _)⟩
  · exact hp.elim
theorem opa_list : OpA G (fun xs H Q => ∃ p ys, xs = [.ref p] ∧ (SqL G.K H p ys ∨ SqT G.K H p ys) ∧ ∀ l, H l = none → Q (.ref l) (upd H l (.lst ys))) (roL pSeq fSeq) := opa_L fun so vs ds H B Q e hv hp k => by
  unfold pSeq at hp
  split at hp
  · match vs, hv with
    | [_], .cons (.lst hs hr) .nil => exact ⟨_, _, rfl, .inl (.inl (.inl (e _ _ hs))), fun l hl => k _ _ hl hr⟩
  · match vs, hv with
    | [_], .cons (.tup hs hr) .nil => exact ⟨_, _, rfl, .inr (sqT_same e hs), fun l hl => k _ _ hl hr⟩
  · match vs, hv with
    | [_], .cons (.scr hs) .nil => exact ⟨_, _, rfl, .inl (e.seq hs), fun l hl => k _ _ hl (.ints _ rfl)⟩
  · exact hp.elim
/-- tuple(x) -/
def roTup : AO := fun ds Q => match ds with
  | [.lst es] => Q (.sh (.tup es))
  | [.tup es] => Q (.sh (.tup es))
  | _ => False
theorem roTup_mono : MonoA roTup := fun ds _ _ hq h => by
  unfold roTup at h ⊢
  split at h
  · exact hq _ h
  · exact hq _ h
  · exact h
theorem opa_tup : OpA G (fun xs H Q => ∃ p ys, xs = [.ref p] ∧ ((SqL G.K H p ys ∧ ∀ l, H l = none → Q (.ref l) (upd H l (.tup ys))) ∨ (SqT G.K H p ys ∧ Q (.ref p) H))) roTup := by
  intro σ ρ τ vs ds H B Q l hr hv q
  unfold roTup at q
  split at q
  · match vs, hv with
    | [_], .cons (.lst hs hv) .nil => exact ⟨_, _, rfl, .inl ⟨.inl (.inl (hr.hi _ _ hs)), fun p hp => q (fun z => by cases z) _ _ (At.addNew l hr hp fun B' e1 e2 => .tup (.inl (.inl e2)) (hv.mono e1))⟩⟩
  · match vs, hv with
    | [_], .cons (.tup hs hv) .nil => exact ⟨_, _, rfl, .inr ⟨sqT_same hr.hi hs, q (fun z => by cases z) _ _ (At.addSh l hr (.tup hs hv))⟩⟩
  · exact q.elim
abbrev wMin := wFun (roF pInt2 fMin)
abbrev wMax := wFun (roF pInt2 fMax)
abbrev wInt := wFun (roF pIntOf fIntOf)
abbrev wLen := wFun (roF pLen fLen)
abbrev wList := wFun (roL pSeq fSeq)
abbrev wTuple := wFun roTup
theorem de_min (hc : X.calm = true) (hm : X.mg "min" = none) (ha : DA G X [a, b] wr) (hg : Gl X "min" := by rfl) (he : starEach [a, b] X.env = (false, eval a X.env) :: starEach [b] X.env := by rfl) (hpl : (backTo pos (starEach [b] X.env)).any (·.1) = false := by rfl) : DE G X (.Call (.Name "min" p) [a, b] [] pos) (wMin wr) := de_callB (call_min2 hc) opa_min roF_mono hg hm (by decide +kernel) ha (he := he) (hpl := hpl)
theorem de_max (hc : X.calm = true) (hm : X.mg "max" = none) (ha : DA G X [a, b] wr) (hg : Gl X "max" := by rfl) (he : starEach [a, b] X.env = (false, eval a X.env) :: starEach [b] X.env := by rfl) (hpl : (backTo pos (starEach [b] X.env)).any (·.1) = false := by rfl) : DE G X (.Call (.Name "max" p) [a, b] [] pos) (wMax wr) := de_callB (call_max2 hc) opa_max roF_mono hg hm (by decide +kernel) ha (he := he) (hpl := hpl)
theorem de_intOf (hm : X.mg "int" = none) (ha : DA G X [a] wr) (hg : Gl X "int" := by rfl) (he : starEach [a] X.env = (false, eval a X.env) :: starEach [] X.env := by rfl) : DE G X (.Call (.Name "int" p) [a] [] pos) (wInt wr) := de_callT call_int1 opa_int roF_mono hg hm (by decide +kernel) ha (he := he)
theorem de_len (hK : G.K = X.K) (hm : X.mg "len" = none) (ha : DA G X [a] wr) (hg : Gl X "len" := by rfl) (he : starEach [a] X.env = (false, eval a X.env) :: starEach [] X.env := by rfl) : DE G X (.Call (.Name "len" p) [a] [] pos) (wLen wr) := de_callB (CallR.or call_len call_lenD) (hK ▸ opa_len) roF_mono hg hm (by decide +kernel) ha (he := he)
theorem de_list (hK : G.K = X.K) (hm : X.mg "list" = none) (ha : DA G X [a] wr) (hg : Gl X "list" := by rfl) (he : starEach [a] X.env = (false, eval a X.env) :: starEach [] X.env := by rfl) : DE G X (.Call (.Name "list" p) [a] [] pos) (wList wr) := de_callT call_list_of (hK ▸ opa_list) roL_mono hg hm (by decide +kernel) ha (he := he)
theorem de_tuple (hK : G.K = X.K) (hm : X.mg "tuple" = none) (ha : DA G X [a] wr) (hg : Gl X "tuple" := by rfl) (he : starEach [a] X.env = (false, eval a X.env) :: starEach [] X.env := by rfl) : DE G X (.Call (.Name "tuple" p) [a] [] pos) (wTuple wr) := de_callT call_tuple_of (hK ▸ opa_tup) roTup_mono hg hm (by decide +kernel) ha (he := he)
/-- x.bit_length() -/
abbrev wBits := wUn fun i => .int (Builtin.Int.intBits i : Nat)
theorem de_bits {apos : Pos} (ho : DE G X a wa) (hbase : attributeBase a "bit_length" X.env (eval a X.env) = eval a X.env := by rfl) (hline : (apos.endLine == pos.line) = true := by rfl) : DE G X (.Call (.Attribute a "bit_length" apos) [] [] pos) (wBits wa) := by
  refine ⟨wUn_mono ho.mono, pe_weak (pe_bits ho.pe hbase hline) fun σ H Q h => ?_⟩
  obtain ⟨ρ, τ, hA, hw⟩ := h
  refine ⟨ρ, τ, hA, ho.mono (fun x ρ1 k nx l v H1 A1 => ?_) (fun _ _ e => e) hw⟩
  obtain ⟨B, h1, h2⟩ := A1.still nx
  split at k
  · rename_i c e; rw [e] at h1; cases h1
    exact ⟨c, rfl, k (fun z => by cases z) l _ H1 (At.addSh A1.len h2 (.int _))⟩
  · exact k.elim

/-! ### isinstance -/
def kdT : D → Option String
  | .non => some "NoneType"
  | .bl _ => some "bool"
  | .int _ => some "int"
  | .str _ => some "str"
  | .lst _ => some "list"
  | .tup _ => some "tuple"
  | .dic _ _ => some "dict"
  | _ => none
theorem tyx_of {K : PySem.W.Frag} {so : Option Addr} {B H : Hp} {v : V} {d : D} {T : String} (e : Same B H) (h : Rp K so B v d) (k : kdT d = some T) : TyX K H v (.type T) := by
  cases h with
  | non => cases k; exact .base .non
  | bl b => cases k; exact .base (.bl _)
  | int i => cases k; exact .base (.int _)
  | str x => cases k; exact .base (.str _)
  | @lst p vs ds hs hr => cases k; exact .base (.lst (e _ _ hs))
  | @tup p vs ds hs hr =>
    cases k
    rcases sqT_same e hs with (h | ⟨o, h⟩) | ⟨o, its, n, h1, h2, _⟩
    · exact .base (.tup h)
    · exact .fTuple h
    · exact .kTuple h1 h2
  | dic h l hr => cases k; exact .base (.dK (e _ _ h))
  | ins _ _ _ => cases k
  | exn _ _ => cases k
  | exa _ _ _ _ => cases k
  | sto _ => cases k
  | scr _ => cases k
end
end DL
set_option Elab.async false
set_option maxRecDepth 100000
set_option maxHeartbeats 4000000
set_option linter.unusedVariables false
/-! data-level layer, part g: isinstance -/
namespace DL
open PySem PySem.Spec PyProof.Rows L2

/-- what an own class of errors must say -/
structure ExK (K : PySem.W.Frag) (C : Addr) : Prop where
  hg : PySem.W.findIn K (.ref C) "__getattribute__" = some (some (.builtin "BaseException.__getattribute__"))
  hk : PySem.W.findIn K (.ref C) "__getattr__" = some none
  hs : PySem.W.subIn K (.ref C) (.type "BaseException") = some true
  hd : PySem.W.hasDictIn K C = true
  ha : PySem.W.findIn K (.ref C) "__class__" = some (some (.builtin "object.__class__"))
  hn : PySem.W.specialIn K (.builtin "object.__class__") "__get__" = some (some (.builtin "getset_descriptor.__get__"))
  ht : PySem.W.takesIn K (.builtin "object.__class__") = some true
  hm : PySem.W.mroIn K C (.type "object") = some true
def exkB (K : PySem.W.Frag) (C : Addr) : Bool :=
  decide (PySem.W.findIn K (.ref C) "__getattribute__" = some (some (.builtin "BaseException.__getattribute__"))) && (decide (PySem.W.findIn K (.ref C) "__getattr__" = some none) && (decide (PySem.W.subIn K (.ref C) (.type "BaseException") = some true) &&
  (PySem.W.hasDictIn K C && (decide (PySem.W.findIn K (.ref C) "__class__" = some (some (.builtin "object.__class__"))) && (decide (PySem.W.specialIn K (.builtin "object.__class__") "__get__" = some (some (.builtin "getset_descriptor.__get__"))) &&
  (decide (PySem.W.takesIn K (.builtin "object.__class__") = some true) && decide (PySem.W.mroIn K C (.type "object") = some true)))))))
theorem exk_of {K : PySem.W.Frag} {C : Addr} (h : exkB K C = true) : ExK K C := by
  unfold exkB at h
  simp only [Bool.and_eq_true, decide_eq_true_eq] at h
  obtain ⟨h1, h2, h3, h4, h5, h6, h7, h8⟩ := h
  exact ⟨h1, h2, h3, h4, h5, h6, h7, h8⟩
/-- what an own class of instances must say -/
structure InK (K : PySem.W.Frag) (C : Addr) : Prop where
  cl : Cls K C
  ha : PySem.W.findIn K (.ref C) "__class__" = some (some (.builtin "object.__class__"))
  hn : PySem.W.specialIn K (.builtin "object.__class__") "__get__" = some (some (.builtin "getset_descriptor.__get__"))
  ht : PySem.W.takesIn K (.builtin "object.__class__") = some true
  hm : PySem.W.mroIn K C (.type "object") = some true
/-- an exception stands among the pins -/
def PinD (pn : List (Addr × Obj)) : D → Prop
  | .exc _ _ p oe => (p, oe) ∈ pn
  | _ => True
/-- isinstance(d, u) is b -/
def Isi (K : PySem.W.Frag) (d : D) (u : Value) (b : Bool) : Prop := match d with
  | .ins c _ _ => InK K (He.ga K c) ∧ PySem.W.kitOne K (.ref (He.ga K c)) u = some b
  | .exc c _ _ _ => ExK K (He.ga K c) ∧ PySem.W.kitOne K (.ref (He.ga K c)) u = some b
  | d => ∃ t, kdT d = some t ∧ PySem.W.kitOne K (.type t) u = some b
section
variable {K : PySem.W.Frag} {so : Option Addr} {B H : Hp} {v : V} {d : D}
/-- the error's object as the library reads it -/
theorem exc_inst {X : Cx} {pins : List (Addr × Obj)} {σ : St} {s : Shared} {v : V} {p : Addr} {oe : Obj} {c : Str} {a : Option D} (I : Inv X pins σ H s) (hp : (p, oe) ∈ X.pn) (e : Same B H) (h : Rp K so B v (.exc c a p oe)) :
    v = .ref p ∧ ∃ od, PySem.W.InstAt s.heap p oe (He.ga K c) od := by
  have hg : s.heap.get? p = some oe := (I.pin (p, oe) (List.mem_append_left _ hp)).1
  cases h with
  | exn hz hf =>
    obtain ⟨vs, hv⟩ := hf
    refine ⟨rfl, none, ?_⟩
    obtain ⟨oc, od, oda, osl⟩ := oe
    obtain ⟨h1, h2, _⟩ := hz
    dsimp only at h1 h2 hv
    subst h1 h2 hv
    exact ⟨hg, rfl, rfl, trivial⟩
  | @exa _ dd _ _ v _ hz hf hd hv =>
    have hx : ObjOk X.prog X.w H s.heap dd (.xd [(fieldOf c, v)]) := I.hok dd _ (e _ _ hd)
    obtain ⟨mA, hns, hr⟩ := hx
    obtain ⟨od, ho, hl⟩ := lookIn_ns hns
    obtain ⟨vs, hd⟩ := hf
    exact ⟨rfl, some od, hg, hz.1, by unfold PySem.W.notCls; rw [hd] <;> rfl, by rw [hz.2.1]; exact ho⟩
/-- what the library's isinstance asks of such a value -/
theorem isi_kit {X : Cx} {pins : List (Addr × Obj)} {σ : St} {s : Shared} {w u : Value} {b : Bool} (hK : K = X.K) (I : Inv X pins σ H s) (e : Same B H) (h : Rp K so B v d) (r : RelV v w) (k : Isi K d u b) (pd : PinD X.pn d) :
    ∃ (t : Value) (P : Heap → Prop), PySem.W.KitX X.K w t P ∧ P s.heap ∧ PySem.W.kitOne X.K t u = some b ∧ w ≠ .builtin "__main__.__loader__#opaque" := by
  subst hK
  have base : ∀ {t}, kdT d = some t → PySem.W.kitOne X.K (.type t) u = some b → ∃ (t : Value) (P : Heap → Prop), PySem.W.KitX X.K w t P ∧ P s.heap ∧ PySem.W.kitOne X.K t u = some b ∧ w ≠ .builtin "__main__.__loader__#opaque" := fun {t} h1 h2 => by
    obtain ⟨P, z, p, hx⟩ := kit_of I r (tyx_of e h h1)
    exact ⟨_, P, z, p, h2, hx⟩
  cases d with
  | non => obtain ⟨t, h1, h2⟩ := k; exact base h1 h2
  | bl _ => obtain ⟨t, h1, h2⟩ := k; exact base h1 h2
  | int _ => obtain ⟨t, h1, h2⟩ := k; exact base h1 h2
  | str _ => obtain ⟨t, h1, h2⟩ := k; exact base h1 h2
  | lst _ => obtain ⟨t, h1, h2⟩ := k; exact base h1 h2
  | tup _ => obtain ⟨t, h1, h2⟩ := k; exact base h1 h2
  | dic _ _ => obtain ⟨t, h1, h2⟩ := k; exact base h1 h2
  | sto => obtain ⟨t, h1, h2⟩ := k; cases h1
  | scr _ => obtain ⟨t, h1, h2⟩ := k; cases h1
  | ins c fs ds =>
    obtain ⟨z, h2⟩ := k
    cases h with
    | ins hp hl hr =>
      obtain ⟨P, z, p, hx⟩ := kit_of I r (.base (.ins (e _ _ hp) z.cl z.ha z.hn z.ht z.hm))
      exact ⟨_, P, z, p, h2, hx⟩
  | exc c a p oe =>
    obtain ⟨z, h2⟩ := k
    obtain ⟨rfl, od, J⟩ := exc_inst I pd e h
    cases (show w = Value.ref p from r)
    exact ⟨_, _, PySem.W.kitx_exc (by obtain ⟨cd, hc, _⟩ := PySem.W.any_some z.hd; rw [hc] <;> rfl) z.hg z.hk z.hs z.ha z.hn z.ht z.hm, J, h2, fun z => nomatch z⟩
end
/-- isinstance(x, c), the answer by f -/
def wIsi (f : D → Option Bool) (pn : List (Addr × Obj)) (wa : DT Sl) : DT Sl := fun ρ Q E => wa ρ (fun x ρ1 => match f x.dat with
  | some b => PinD pn x.dat ∧ Q (.sh (.bl b)) ρ1
  | none => False) E
theorem wIsi_mono {f : D → Option Bool} {pn : List (Addr × Obj)} {wa : DT Sl} (ha : Mono wa) : Mono (wIsi f pn wa) := fun _ _ _ _ _ hq he q => ha (fun x ρ1 k => by
  split at k
  · exact ⟨k.1, hq _ _ k.2⟩
  · exact k.elim) he q
section
variable {G : Gx} {X : Cx} {a c : Expr} {wa : DT Sl} {p pos : Pos}
theorem call_isiD {v : V} {u : Value} {d : D} {b : Bool} {so : Option Addr} {B H : Hp} (hK : G.K = X.K) (e : Same B H) (h : Rp G.K so B v d) (k : Isi G.K d u b) (pd : PinD X.pn d) :
    ∀ (pins : List (Addr × Obj)) (s : Shared) (σ : St) (us : List Value) (Q : VK), Inv X pins σ H s → ∀ w, RelV v w → Q (.bl b) H → wpAny (model X.prog X.w) X.A (call (.builtin "isinstance") [w, u]) (EP X pins σ Q) X.xe s := by
  intro pins s σ us Q I w r q
  obtain ⟨t, P, z, pp, e1, hx⟩ := isi_kit hK I e h r k pd
  exact PySem.W.kia_one z I.kIn pp (hK ▸ e1) hx fun tk => ⟨.bl b, H, I.tok tk, rfl, q⟩
/-- what isinstance's arguments are -/
def rIsiD (G : Gx) (pn : List (Addr × Obj)) (u : Value) : List V → Hp → VK → Prop := fun xs H Q => ∃ v c d b B so, xs = [v, c] ∧ (∀ w, RelV c w → w = u) ∧ Same B H ∧ Rp G.K so B v d ∧ Isi G.K d u b ∧ PinD pn d ∧ Q (.bl b) H
theorem cr_isi {u : Value} (hK : G.K = X.K) : CallR X (.builtin "isinstance") (rIsiD G X.pn u) := by
  intro pins s σ H xs us Q I r h
  obtain ⟨v, c, d, b, B, so, rfl, hc, e, hv, k, pd, q⟩ := h
  obtain ⟨u1, u2, rfl, r1, r2⟩ := vals2 r
  rw [hc u2 r2]
  exact call_isiD hK e hv k pd pins s σ [] Q I u1 r1 q
theorem de_isi {cv : V} {u : Value} {f : D → Option Bool} (hK : G.K = X.K) (hm : X.mg "isinstance" = none) (hc : PE X c (tC cv)) (hcv : ∀ w, RelV cv w → w = u) (hf : ∀ d b, f d = some b → Isi G.K d u b) (ha : DE G X a wa) (hg : Gl X "isinstance" := by rfl)
    (he : starEach [a, c] X.env = (false, eval a X.env) :: starEach [c] X.env := by rfl) (he2 : starEach [c] X.env = (false, eval c X.env) :: starEach [] X.env := by rfl) (hpl : (backTo pos (starEach [c] X.env)).any (·.1) = false := by rfl) :
    DE G X (.Call (.Name "isinstance" p) [a, c] [] pos) (wIsi f X.pn wa) := by
  refine ⟨wIsi_mono ha.mono, pe_weak (pe_callB (cr_isi (u := u) hK) hg hm (by decide +kernel) (pa_cons ha.pe (pa_cons hc pa_nil he2) he) (he := he) (hpl := hpl)) fun σ H Q h => ?_⟩
  obtain ⟨ρ, τ, hA, hw⟩ := h
  refine ⟨ρ, τ, hA, ha.mono (fun x ρ1 k nx l v H1 A1 => ?_) (fun _ _ e => e) hw⟩
  obtain ⟨B, h1, h2⟩ := A1.still nx
  split at k
  · rename_i b e
    exact ⟨v, cv, _, b, B, G.so, rfl, hcv, h2.hi, h1, hf _ _ e, k.1, k.2 (fun z => by cases z) l _ H1 (At.addSh A1.len h2 (.bl _))⟩
  · exact k.elim
end
/-! ### the built-in classes -/
def kitT (t T : String) (b : Bool) : Bool := decide (kitB t T = some b)
theorem isi_ty {K : PySem.W.Frag} {d : D} {t T : String} {b : Bool} (h : kdT d = some t) (k : kitT t T b = true) : Isi K d (.type T) b := by
  have q : PySem.W.kitOne K (.type t) (.type T) = some b := kit_ty (of_decide_eq_true k)
  cases d <;> first
    | exact ⟨_, h, q⟩
    | cases h
def isInt : D → Option Bool | .int _ => some true | .bl _ => some true | .non => some false | .str _ => some false | .lst _ => some false | .tup _ => some false | .dic _ _ => some false | _ => none
def isBool : D → Option Bool | .bl _ => some true | .int _ => some false | .non => some false | .str _ => some false | .lst _ => some false | .tup _ => some false | .dic _ _ => some false | _ => none
def isStr : D → Option Bool | .str _ => some true | .int _ => some false | .bl _ => some false | .non => some false | .lst _ => some false | .tup _ => some false | .dic _ _ => some false | _ => none
def isLst : D → Option Bool | .lst _ => some true | .int _ => some false | .bl _ => some false | .non => some false | .str _ => some false | .tup _ => some false | .dic _ _ => some false | _ => none
def isTup : D → Option Bool | .tup _ => some true | .int _ => some false | .bl _ => some false | .non => some false | .str _ => some false | .lst _ => some false | .dic _ _ => some false | _ => none
theorem isInt_ok {K : PySem.W.Frag} : ∀ d b, isInt d = some b → Isi K d (.type "int") b
  | .int _, _, h => by cases h; exact isi_ty (t := "int") rfl (by decide +kernel)
  | .bl _, _, h => by cases h; exact isi_ty (t := "bool") rfl (by decide +kernel)
  | .non, _, h => by cases h; exact isi_ty (t := "NoneType") rfl (by decide +kernel)
  | .str _, _, h => by cases h; exact isi_ty (t := "str") rfl (by decide +kernel)
  | .lst _, _, h => by cases h; exact isi_ty (t := "list") rfl (by decide +kernel)
  | .tup _, _, h => by cases h; exact isi_ty (t := "tuple") rfl (by decide +kernel)
  | .dic _ _, _, h => by cases h; exact isi_ty (t := "dict") rfl (by decide +kernel)
  | .ins _ _ _, _, h => by cases h
  | .exc _ _ _ _, _, h => by cases h
  | .sto, _, h => by cases h
  | .scr _, _, h => by cases h
theorem isBool_ok {K : PySem.W.Frag} : ∀ d b, isBool d = some b → Isi K d (.type "bool") b
  | .int _, _, h => by cases h; exact isi_ty (t := "int") rfl (by decide +kernel)
  | .bl _, _, h => by cases h; exact isi_ty (t := "bool") rfl (by decide +kernel)
  | .non, _, h => by cases h; exact isi_ty (t := "NoneType") rfl (by decide +kernel)
  | .str _, _, h => by cases h; exact isi_ty (t := "str") rfl (by decide +kernel)
  | .lst _, _, h => by cases h; exact isi_ty (t := "list") rfl (by decide +kernel)
  | .tup _, _, h => by cases h; exact isi_ty (t := "tuple") rfl (by decide +kernel)
  | .dic _ _, _, h => by cases h; exact isi_ty (t := "dict") rfl (by decide +kernel)
  | .ins _ _ _, _, h => by cases h
  | .exc _ _ _ _, _, h => by cases h
  | .sto, _, h => by cases h
  | .scr _, _, h => by cases h
theorem isStr_ok {K : PySem.W.Frag} : ∀ d b, isStr d = some b → Isi K d (.type "str") b
  | .int _, _, h => by cases h; exact isi_ty (t := "int") rfl (by decide +kernel)
  | .bl _, _, h => by cases h; exact isi_ty (t := "bool") rfl (by decide +kernel)
  | .non, _, h => by cases h; exact isi_ty (t := "NoneType") rfl (by decide +kernel)
  | .str _, _, h => by cases h; exact isi_ty (t := "str") rfl (by decide +kernel)
  | .lst _, _, h => by cases h; exact isi_ty (t := "list") rfl (by decide +kernel)
  | .tup _, _, h => by cases h; exact isi_ty (t := "tuple") rfl (by decide +kernel)
  | .dic _ _, _, h => by cases h; exact isi_ty (t := "dict") rfl (by decide +kernel)
  | .ins _ _ _, _, h => by cases h
  | .exc _ _ _ _, _, h => by cases h
  | .sto, _, h => by cases h
  | .scr _, _, h => by cases h
theorem isLst_ok {K : PySem.W.Frag} : ∀ d b, isLst d = some b → Isi K d (.type "list") b
  | .int _, _, h => by cases h; exact isi_ty (t := "int") rfl (by decide +kernel)
  | .bl _, _, h => by cases h; exact isi_ty (t := "bool") rfl (by decide +kernel)
  | .non, _, h => by cases h; exact isi_ty (t := "NoneType") rfl (by decide +kernel)
  | .str _, _, h => by cases h; exact isi_ty (t := "str") rfl (by decide +kernel)
  | .lst _, _, h => by cases h; exact isi_ty (t := "list") rfl (by decide +kernel)
  | .tup _, _, h => by cases h; exact isi_ty (t := "tuple") rfl (by decide +kernel)
  | .dic _ _, _, h => by cases h; exact isi_ty (t := "dict") rfl (by decide +kernel)
  | .ins _ _ _, _, h => by cases h
  | .exc _ _ _ _, _, h => by cases h
  | .sto, _, h => by cases h
  | .scr _, _, h => by cases h
theorem isTup_ok {K : PySem.W.Frag} : ∀ d b, isTup d = some b → Isi K d (.type "tuple") b
  | .int _, _, h => by cases h; exact isi_ty (t := "int") rfl (by decide +kernel)
  | .bl _, _, h => by cases h; exact isi_ty (t := "bool") rfl (by decide +kernel)
  | .non, _, h => by cases h; exact isi_ty (t := "NoneType") rfl (by decide +kernel)
  | .str _, _, h => by cases h; exact isi_ty (t := "str") rfl (by decide +kernel)
  | .lst _, _, h => by cases h; exact isi_ty (t := "list") rfl (by decide +kernel)
  | .tup _, _, h => by cases h; exact isi_ty (t := "tuple") rfl (by decide +kernel)
  | .dic _ _, _, h => by cases h; exact isi_ty (t := "dict") rfl (by decide +kernel)
  | .ins _ _ _, _, h => by cases h
  | .exc _ _ _ _, _, h => by cases h
  | .sto, _, h => by cases h
  | .scr _, _, h => by cases h
section
variable {G : Gx} {X : Cx} {a : Expr} {wa : DT Sl} {p q pos : Pos}
theorem de_isiT {T : Str} {n : String} {f : D → Option Bool} (hK : G.K = X.K) (hm : X.mg "isinstance" = none) (hT : X.mg T = none) (hb : bootBuiltins T = some (.type n)) (hf : ∀ d b, f d = some b → Isi G.K d (.type n) b) (ha : DE G X a wa) (hg : Gl X "isinstance" := by rfl) (hgT : Gl X T := by rfl)
    (hn : T ≠ "__name__" := by decide) (hd : (T == ("__debug__" : Str)) = false := by decide)
    (he : starEach [a, .Name T q] X.env = (false, eval a X.env) :: starEach [.Name T q] X.env := by rfl) : DE G X (.Call (.Name "isinstance" p) [a, .Name T q] [] pos) (wIsi f X.pn wa) :=
  de_isi (cv := .ty n) hK hm (pe_bltn hgT hT hb rfl hn hd) (fun w r => r) hf ha (hg := hg) (he := he)
theorem de_isiC {T : Str} {f : D → Option Bool} (hK : G.K = X.K) (hm : X.mg "isinstance" = none) (hT : X.mg T = some (.ref (He.ga G.K T))) (hf : ∀ d b, f d = some b → Isi G.K d (.ref (He.ga G.K T)) b) (ha : DE G X a wa) (hg : Gl X "isinstance" := by rfl) (hgT : Gl X T := by rfl)
    (hd : (T == ("__debug__" : Str)) = false := by decide)
    (he : starEach [a, .Name T q] X.env = (false, eval a X.env) :: starEach [.Name T q] X.env := by rfl) : DE G X (.Call (.Name "isinstance" p) [a, .Name T q] [] pos) (wIsi f X.pn wa) :=
  de_isi (cv := .ref (He.ga G.K T)) hK hm (pe_glob hgT hT rfl hd) (fun w r => r) hf ha (hg := hg) (he := he)
end
end DL
set_option Elab.async false
set_option maxRecDepth 100000
set_option maxHeartbeats 4000000
set_option linter.unusedVariables false
/-! super().__init__(e) at the start of an own error's __init__, over the layer -/
namespace DL
open PySem PySem.Spec PyProof.Rows L2 NdefX

/-- what the written part says of such an __init__ -/
structure SupC (P : Program) (K : PySem.W.Frag) (C fI : Addr) (F : NF) (doc pm ctv : Value) : Prop where
  ox : OexC K C
  fn : ∃ oc od osl, K.lookup fI = some ⟨oc, od, .func (F.fd doc pm ctv), osl⟩
  cell : ∃ cc cl cld csl, F.cl = [(("__class__" : Str), cc)] ∧ K.lookup cc = some ⟨cl, cld, .cell (some (.ref C)), csl⟩
  code : PySem.W.codeIn K (.ref F.c) F.qual = true
  codeO : ∃ ccl cdd vs ccs file tf, K.lookup F.c = some ⟨ccl, cdd, .fields vs, ccs⟩ ∧ vs[2]? = some (.str file tf) ∧ ((P.main.file : Str) == file) = true
  mro : PySem.W.mroIn K C (.ref C) = some true
  sup : PySem.W.ks_superIn K C C "__init__" = some (some (.builtin "ValueError.__init__"))
  sub : PySem.W.subIn K (.ref C) (.type "ValueError") = some true
  any : PySem.W.nsIn K cStatics "thirdparty.any" = some none
  top : (P.main.scope.names.lookup ("super" : Str)).isSome = false

section
variable {X : Cx} {pins : List (Addr × Obj)} {σ : L2.St} {H : Hp} {s : Shared} {a C u : Addr}
/-- the bound ValueError.__init__ called -/
theorem mw_call {us : List Value} {Q : Value → Shared → Prop} (T : OexC X.K C) (I : Inv X pins σ H s) (e : H a = some (exo a C none)) (hu : s.heap.get? u = some (PySem.W.kxs_mw "ValueError.__init__" a)) (hl : us.length ≤ sizeLine)
    (h : ∀ s', Inv X pins σ H s' → Q .none s') : wpAny (model X.prog X.w) X.A (call (.ref u) us) Q X.xe s := by
  obtain ⟨nm, q, N, bs, bm, sn, sub, ab, col, dd, k0, k1, k2, k3, k5, hC, hbm⟩ := T.cls
  obtain ⟨t1, ho⟩ := exo_at I.hok e
  have hCh := I.kIn _ _ hC
  obtain ⟨hp, g, d, t, os⟩ := s
  refine wpAny_call (codeAny_of_tree ?_)
  show wpAny _ X.A.in1 (callAny (.ref u) ⟨us, []⟩) _ _ _
  simp only [callAny]
  refine wpAny_bind (wpAny_load hu ?_)
  simp only [PySem.W.kxs_mw, show (Value.type "method-wrapper" == Value.type "method" || Value.type "method-wrapper" == Value.type "builtin_function_or_method" || Value.type "method-wrapper" == Value.type "method-wrapper") = true by decide, if_true]
  refine PySem.W.KFB.if_so (by decide) ?_
  refine wpAny_bind (PySem.W.check_bound_init F.excBase_ValueError.toExcCallFacts hCh ho rfl ?_)
  refine wpAny_bind (wpAny_pure (wpAny_pure ?_))
  refine ⟨plainId_quiet F.excBase_ValueError.init.plain _, codeAny_builtin F.excBase_ValueError.initEntry ?_⟩
  refine PySem.W.exc_init_tree (cls := .ref C) (t0 := t1) (dv := none) (c2 := .none) (c3 := .none) (b4 := .bool false) ho hl fun h' k hx _ => ?_
  have J := I.write (t' := t) (x := a) (e := a) (o := exo a C none) (by rw [e]; exact True.intro) (.inl rfl) k ⟨_, hx⟩ (exo_ok hx)
  have eu : upd H a (exo a C none) = H := by
    funext b
    by_cases hb : b = a
    · rw [hb, upd_same, e]
    · rw [upd_ne hb]
  rw [eu] at J
  exact h _ J
end

section
variable {CX : CXT} {P : Program} {w : World} {K : PySem.W.Frag} {mg : Str → Option Value} {base : Heap} {N : List Str} {C fI : Addr} {F : NF} {k : Nat} {sp : Sp} {doc pm ctv : Value} {ps : List Str}
theorem sup_ok (S : SupC P K C fI F doc pm ctv) (ms : mg "super" = none) (Sc : NScope N ps ["__class__"] F.scope) {e : Expr} {rest : List Stmt} {p0 p1 p2 p3 p4 p5 : Pos}
    (hbd : F.body = .Expr (.Call (.Attribute (.Call (.Name "super" p0) [] [] p1) "__init__" p2) [e] [] p3) p4 :: rest)
    {ar : Arg} (har : (F.params.posonlyargs ++ F.params.args).head? = some ar) (hps : ps.head? = some ar.arg) (hks : F.scope.names.lookup ("super" : Str) = some .globalImplicit) (hkc : F.scope.names.lookup ("__class__" : Str) = some .free) (hka : F.scope.names.lookup ar.arg = some .local)
    (len : ∀ vs H Q E, sp vs H Q E → vs.length = ps.length)
    (hst : ∀ env : Env, starEach [e] env = (false, eval e env) :: starEach [] env)
    (hsw : ∀ env : Env, swapsWith (.Call (.Attribute (.Call (.Name "super" p0) [] [] p1) "__init__" p2) [e] [] p3) none p4.line env = pure false)
    (hev : ∀ env : Env, eval (.Call (.Attribute (.Call (.Name "super" p0) [] [] p1) "__init__" p2) [e] [] p3) env = (do
      let ov ← attributeBase (.Call (.Name "super" p0) [] [] p1) "__init__" env (eval (.Call (.Name "super" p0) [] [] p1) env)
      standAt p2.atName
      let (f, first) ← holding [ov] (getMethod ov "__init__" (pure false))
      callWith p3 f first (backTo p3 (starEach [e] env)) []))
    (hbody : ∀ (A : Around) (outer : List Env) (s : Shared) (H : Hp) (vs : List V) (Q : VK) (E : XK), Room k (A.deeper (envF F fI s.heap.objs.size)) → sp vs H Q E →
      ∃ te tr a, PE (ncx CX P w K mg base N F fI A outer s H E) e te ∧ PSs (ncx CX P w K mg base N F fI A outer s H E) rest tr ∧ vs.head? = some (.ref a) ∧ H a = some (exo a C none) ∧
        te (startF N vs [none]) H (fun _ H1 => H1 a = some (exo a C none) ∧ tr { nx := fun _ H' => Q .non H', rt := Q } (startF N vs [none]) H1)) :
    FnOk P w K mg base CX (k + 1) fI (F.fd doc pm ctv) ps sp := by
  refine ⟨len, fun A outer s H args us vs Q E hr e0 hb r hsp => ?_⟩
  have hl := len _ _ _ _ hsp
  have KX : K.In s.heap := e0.mod.kin.keeps fun b o e => (e0.bs b o e).1
  have lim : s.heap.NoLimit := e0.mod.nolimit.keeps fun b o e => (e0.bs b o e).1
  obtain ⟨oc, od, osl, lk⟩ := S.fn
  obtain ⟨cc, cl, cld, csl, ecl, lcc⟩ := S.cell
  obtain ⟨ccl, cdd, cvs, ccs, file, tf, lco, hvs, hfile⟩ := S.codeO
  obtain ⟨te, tr, a, he, hrest, hva, ha, hq⟩ := hbody A outer s H vs Q E (hr.deeper _) hsp
  refine ks_codeAny_call_defAt hr.depth (KX _ _ lk) rfl lim (PySem.W.codeRec_of KX S.code) rfl hb (fun x hx => Sc.nocell x hx) (fun x hx => ?_) (fun h₁ hns kp => ?_) Sc.co Sc.gen Sc.kind
  · obtain ⟨n, v⟩ := x
    exact Sc.par n (List.of_mem_zip hx).1
  have Cs : CellsAt F.cl ["__class__"] [none] s.heap H := {
    len := rfl
    all := fun y c hy => by
      rw [ecl] at hy
      have e2 : c = cc := by
        unfold List.lookup at hy
        split at hy
        · exact (Option.some.inj hy).symm
        · cases hy
      subst e2
      exact ⟨(e0.bs _ _ (e0.mod.kin _ _ lcc)).2, _, _, KX _ _ lcc, rfl⟩
    inj := fun x y c hx hy => by
      rw [ecl] at hx hy
      unfold List.lookup at hx hy
      split at hx
      · split at hy
        · rename_i q1 _ q2
          exact (beq_iff_eq.mp q1).trans (beq_iff_eq.mp q2).symm
        · cases hy
      · cases hx
    has := fun i y hy => by
      have e2 : y = "__class__" := by
        cases i with
        | zero => exact (Option.some.inj hy).symm
        | succ i => simp at hy
      subst e2
      refine ⟨cc, by rw [ecl]; rfl, fun v hv => ?_⟩
      cases i with
      | zero => simp at hv
      | succ i => simp at hv }
  have I : Inv (ncx CX P w K mg base N F fI A outer s H E) [] (startF N vs [none]) H ⟨h₁, s.gens, s.drawn, s.toks + (ps.zip us).length, s.os⟩ := inv_startN Sc hr.hd e0 hl r Cs hns kp
  show _root_.PySem.wpAt (model P w) (A.deeper (envF F fI s.heap.objs.size)) (.func F.body (envF F fI s.heap.objs.size)) (execs F.body (envF F fI s.heap.objs.size)) _ _ ⟨h₁, s.gens, s.drawn, s.toks + (ps.zip us).length, s.os⟩
  have KI := I.kIn
  obtain ⟨nm, qn, Nn, bs, bm, sn, sub, ab, col, dd, k0, k1, k2, k3, k5, hC, hbm⟩ := S.ox.cls
  have hcl : PySem.W.clsIn K C = some { name := nm, bases := bs, mro := .ref C :: bm, ns := Nn, qualname := qn, hasDict := true, slotNames := sn, subclasses := sub, abstract := ab, collection := col, hasDel := false } := by unfold PySem.W.clsIn; rw [hC] <;> rfl
  obtain ⟨t1, hoa⟩ := exo_at I.hok ha
  have hCh := KI _ _ hC
  rw [hbd]
  refine ks_wpAt_execs_cons (ks_wpAt_Expr_any (ks_wpAt_MethodCall (pl := pure false) ?_ (hev _)) (by simp [interactive, envF, PySem.W.envX, Sc.kind]) (hsw _))
  rw [← hbd]
  refine ks_wpAt_super_base (env := envF F fI s.heap.objs.size) hks hkc (by decide) rfl (KI _ _ lk) rfl har rfl (KI _ _ lco) rfl hvs hfile S.top ?_
  obtain ⟨mb, hmb1, hmb2⟩ := e0.mod.blt
  have hgl : h₁.Ns mainGlobals mg := e0.mod.glob.keeps I.bk
  have hbl : h₁.Ns builtinsNs mb := hmb1.keeps I.bk
  have ndP : ps.Nodup := by
    have q := Sc.nd.sublist (List.take_sublist (ps.length + (["__class__"] : List Str).length) N)
    rw [Sc.pre] at q
    exact (List.nodup_append.mp q).1
  have hself : (ps.zip us).reverse.lookup ar.arg = some (.ref a) := by
    cases vs with
    | nil => cases hva
    | cons v vs' =>
      have ev : v = .ref a := Option.some.inj hva
      subst ev
      cases r with
      | @cons _ u _ us' ra _ =>
        obtain rfl : u = Value.ref a := ra
        refine zip_look (i := 0) ndP ?_ rfl
        cases ps with
        | nil => cases hps
        | cons p ps' => exact hps
  refine PySem.W.ks_loadName_global Sc.kind hks (PySem.Calls.loadGlobal_builtin (env := envF F fI s.heap.objs.size) hgl ms hbl ((hmb2 _ (by decide)).trans (by decide +kernel)) ⟨rfl, ?_⟩)
  refine wpAny_loadName_free Sc.kind hkc (show F.cl.lookup ("__class__" : Str) = some cc by rw [ecl]; rfl) ⟨_, KI _ _ lcc, rfl⟩ ?_
  refine wpAny_loadName_local Sc.kind hka hns hself ?_
  refine ks_wpAny_isType_cls hCh rfl ⟨rfl, ?_⟩
  refine ks_wpAny_call_super hCh rfl hoa rfl (fun c z => by cases z) (PySem.W.looks_mroIn KI S.mro) (fun h2 e2 kp2 => ?_)
  have I1 : Inv (ncx CX P w K mg base N F fI A outer s H E) [] (startF N vs [none]) H ⟨h2, s.gens, s.drawn, s.toks + (ps.zip us).length, s.os⟩ := I.kept kp2
  have K1 := I1.kIn
  have hoa2 := kp2 _ _ hoa
  have IA : PySem.W.InstAt h2 a { cls := .ref C, dict := none, data := .fields #[.ref t1, .none, .none, .none, .bool false, .none] } C none := ⟨hoa2, rfl, rfl, trivial⟩
  have hsup := S.sup
  unfold PySem.W.ks_superIn at hsup
  rw [hcl] at hsup
  refine PySem.W.kxs_getMethod PySem.W.kxs_ValueError e2 (PySem.W.looks_opaque K1 S.any) (fun A Q E s k q => wpAny_bind ((PySem.W.looks_clsIn K1 hcl) A _ E s k (wpAny_pure q))) rfl K1 hsup
    (IA.type.andThen (PySem.W.looks_subIn K1 S.sub)) (PySem.W.ks_ne K1 IA hcl) (by decide) ?_
  have kp3 : ∀ b o, h2.get? b = some o → (h2.push (PySem.W.kxs_mw "ValueError.__init__" a)).get? b = some o := fun b o z => Heap.get?_push_of_some _ z
  have hmw : (h2.push (PySem.W.kxs_mw "ValueError.__init__" a)).get? h2.objs.size = some (PySem.W.kxs_mw "ValueError.__init__" a) := Heap.get?_push_at rfl rfl
  have I2 : Inv (ncx CX P w K mg base N F fI A outer s H E) [(h2.objs.size, PySem.W.kxs_mw "ValueError.__init__" a)] (startF N vs [none]) H ⟨h2.push (PySem.W.kxs_mw "ValueError.__init__" a), s.gens, s.drawn, s.toks + (ps.zip us).length + 1, s.os⟩ :=
    (I1.kept (t' := s.toks + (ps.zip us).length + 1) kp3).pins_of fun p hp => by
      have ep : p = (h2.objs.size, PySem.W.kxs_mw "ValueError.__init__" a) := by simpa using hp
      subst ep
      exact ⟨hmw, I1.hok.fresh (Nat.le_refl _), Nat.ne_of_gt I1.lt, I1.nofs (Nat.le_refl _), fun v z => by cases z⟩
  rw [hst]
  refine PySem.W.kxs_callWith (i := "ValueError.__init__") (x := a) rfl ?_
  refine PySem.Calls.evalArgs_plain ?_
  have hpa := (pa_cons he pa_nil (hst _)).run p3 _ _ _ _ (fun xs H1 => match xs with
    | [_] => H1 a = some (exo a C none) ∧ tr { nx := fun _ H' => Q .non H', rt := Q } (startF N vs [none]) H1
    | _ => False) I2 hq
  rw [hst] at hpa
  refine thn hpa fun us' s3 hs3 => ?_
  obtain ⟨vs', H1, I3, r', q3⟩ := hs3
  have hpin := (I3.pin (h2.objs.size, PySem.W.kxs_mw "ValueError.__init__" a) (by simp)).1
  refine ⟨hpin, ?_⟩
  match vs', r', q3 with
  | [x], .cons (b := u) rx .nil, q3 =>
    obtain ⟨q4, q5⟩ := q3
    refine mw_call (X := ncx CX P w K mg base N F fI A outer s H E) S.ox I3 q4 hpin (by show 1 ≤ sizeLine; rw [sizeLine_eq]; omega) fun s4 I4 => ?_
    refine wpAt_of_wpAny ?_
    have J : Inv (ncx CX P w K mg base N F fI A outer s H E) [] (startF N vs [none]) H1 s4 := I4.pins_of fun p hp => by cases hp
    refine wpAny_mono (hrest.run [] s4 (startF N vs [none]) H1 _ J q5) (fun fl s' hs => ?_) fun e s' hs => hs
    have fin : ∀ {σ' : L2.St} {H' : Hp} {v : V} {u : Value}, Inv (ncx CX P w K mg base N F fI A outer s H E) [] σ' H' s' → L2.RelV v u → Q v H' → CE outer P w H s Q u s' :=
      fun {σ' H' v u} J rv q => ⟨v, H', J.os, J.bare, J.base, J.hok, rv, q⟩
    cases fl with
    | ret u =>
      obtain ⟨v, σ', H', J, rv, q⟩ := hs
      exact fin J rv q
    | next =>
      obtain ⟨σ', H', J, q⟩ := hs
      exact fin (v := V.non) (u := Value.none) J rfl q
    | brk =>
      obtain ⟨_, _, _, q⟩ := hs
      exact False.elim q
    | cont =>
      obtain ⟨_, _, _, q⟩ := hs
      exact False.elim q
end
end DL
set_option Elab.async false
set_option maxRecDepth 100000
set_option maxHeartbeats 4000000
set_option linter.unusedVariables false
/-! data-level layer, part h: errors: made, raised, caught; defs called while one is handled -/
namespace DL
open PySem PySem.Spec PyProof.Rows L2 NdefX

/-! ### a def that is called while the error at p is handled -/
structure FnP (P : Program) (w : World) (K : PySem.W.Frag) (mg : Str → Option Value) (base : Heap) (k : Nat) (f : Addr) (fd : FuncData) (ps : List Str) (p : Addr × Obj) (sp : Sp) : Prop where
  len : ∀ vs H Q E, sp vs H Q E → vs.length = ps.length
  run : ∀ (A : Around) (outer : List Env) (s : Shared) (H : Hp) (args : Args) (us : List Value) (vs : List V) (Q : VK) (E : XK), L2H.RoomH k A → L2H.Hot1 A p → L2H.PinOk outer H s p →
    Env0 P w K mg base A outer s H → BindsTo s fd args (ps.zip us) → Vals vs us → sp vs H Q E → codeAny (model P w) A (.call (.ref f) args) (CR (L2N.CX P w) outer P w H s Q E) s
/-- the body's context -/
abbrev cxP (P : Program) (w : World) (K : PySem.W.Frag) (mg : Str → Option Value) (base : Heap) (N : List Str) (qual : Str) (scope : Scope) (f : Addr) (cd : Value) (A : Around) (outer : List Env) (s : Shared) (H : Hp) (E : XK) (p : Addr × Obj) : Cx :=
  L2H.cxH (L2N.CX P w) P w K mg base N qual scope f cd A outer s H E p
section
variable {P : Program} {w : World} {K : PySem.W.Frag} {mg : Str → Option Value} {base : Heap} {x qual : Str} {params : Arguments} {body : List Stmt} {scope : Scope} {dvs : List V} {kws : List (Str × V)} {f : Addr} {fd : FuncData}
theorem fnp_of {N ps : List Str} {k : Nat} {p : Addr × Obj} {sp : Sp} (F : FunD K x qual params body scope dvs kws f fd) (S : FnScope N ps scope) (len : ∀ vs H Q E, sp vs H Q E → vs.length = ps.length)
    (hbody : ∀ (cdv : Value) (A : Around) (outer : List Env) (s : Shared) (H : Hp) (vs : List V) (Q : VK) (E : XK), L2H.Hot1 A p → L2H.RoomH k (A.deeper (envOfC qual scope s.heap.objs.size f cdv)) → sp vs H Q E →
      ∃ t, PSs (cxP P w K mg base N qual scope f cdv A outer s H E p) body t ∧ t { nx := fun _ H' => Q .non H', rt := Q } (L2.start N vs) H) :
    FnP P w K mg base (k + 1) f fd ps p sp := by
  obtain ⟨oc, od, dV, kV, doc, pm, an, cdv, ct, osl, rfl, lk, hcd, _, _⟩ := F.ex
  refine ⟨len, fun A outer s H args us vs Q E hroom hh hpp e00 hbb rr hs0 => ?_⟩
  have hll := len _ _ _ _ hs0
  have inK : K.In s.heap := e00.mod.kin.keeps fun b o e => (e00.bs b o e).1
  have noL : s.heap.NoLimit := e00.mod.nolimit.keeps fun b o e => (e00.bs b o e).1
  refine codeAny_call_function hroom.depth (inK _ _ lk) rfl S.co S.gen rfl (PySem.W.codeRec_of inK hcd) (hbb _ _ _ _ ?_)
  refine wpAny_newFunctionEnv_cells S.kind (fun y hy => ?_) fun env0 he0 s1 xc => ?_
  · have hy1 : y.1 ∈ ps := (List.of_mem_zip (show (y.1, y.2) ∈ ps.zip us from hy)).1
    rcases S.par y.1 hy1 with q | q
    · exact .inl q
    · exact .inr ⟨q, PySem.W.cellsFrom_some _ _ _ (.inl q)⟩
  · subst he0
    refine ⟨noL.keeps xc.toInCall.keep, codeAny_func ?_⟩
    obtain ⟨t, ht, hq⟩ := hbody cdv A outer s H vs Q E hh (hroom.deeper _) hs0
    have I := L2H.inv_startH (CX := L2N.CX P w) (w := w) (E := E) S hpp e00 hll rr xc
    refine wpAny_mono (ht.run [] s1 (L2.start N vs) H _ I hq) (fun fl s' hs => ?_) fun e s' hs => hs
    cases fl with
    | ret u => obtain ⟨v, σ', H', J, rv, q⟩ := hs; exact ⟨v, H', J.os, J.bare, J.base, J.hok, rv, q⟩
    | next => obtain ⟨σ', H', J, q⟩ := hs; exact ⟨V.non, H', J.os, J.bare, J.base, J.hok, rfl, q⟩
    | brk => obtain ⟨_, _, _, q⟩ := hs; exact q.elim
    | cont => obtain ⟨_, _, _, q⟩ := hs; exact q.elim
theorem fn_bodyP {N ps : List Str} {k : Nat} {p : Addr × Obj} {W : DW1} (F : FunD K x qual params body scope dvs kws f fd) (S : FnScope N ps scope) (hlen : ∀ ds Q E, W ds Q E → ds.length = ps.length)
    (hb : ∀ (cdv : Value) (A : Around) (outer : List Env) (s : Shared) (H : Hp) (E : XK) (so : Option Addr) (B : Hp), L2H.Hot1 A p → L2H.RoomH k (A.deeper (envOfC qual scope s.heap.objs.size f cdv)) →
      L2N.Takes (cxP P w K mg base N qual scope f cdv A outer s H E p) (fun cls d _ H => E cls d H) →
      ∃ wb, DSs ⟨K, so, B, H, fun _ => E⟩ (cxP P w K mg base N qual scope f cdv A outer s H E p) body wb ∧ ∀ ds Q E', W ds Q E' → wb (bodyEnds Q) (entry N.length ds) (fun e _ => E' e)) :
    FnP P w K mg base (k + 1) f fd ps p (spD K ps.length W) := by
  refine fnp_of F S (fun vs H Q E h => ?_) (fun cdv A outer s H vs Q E hh hr h => ?_)
  · obtain ⟨so, B, ds, ln, _, _, hv, _⟩ := h
    exact hv.len.trans ln
  · obtain ⟨so, B, ds, ln, e, st, hv, hW⟩ := h
    obtain ⟨wb, d, hw⟩ := hb cdv A outer s H E so B hh hr (L2N.takes_of rfl rfl rfl rfl)
    exact ⟨_, d.ps, entry_reads e st hv d (hw ds _ _ hW) (fun x h => h) (fun e h => h)⟩
end
/-- such a def, called by its name -/
structure FDP (P : Program) (w : World) (K : PySem.W.Frag) (mg : Str → Option Value) (base : Heap) (k : Nat) (x : Str) (n : Nat) (p : Addr × Obj) (W : DW1) : Prop where
  mono : MonoW W
  ex : ∃ (f : Addr) (fd : FuncData) (ps : List Str), ps.length = n ∧ mg x = some (.ref f) ∧ PySem.W.keepIn K (.ref f) = true ∧ FnP P w K mg base k f fd ps p (spD K n W) ∧ Binds K fd ps []
section
variable {P : Program} {w : World} {K : PySem.W.Frag} {mg : Str → Option Value} {base : Heap} {x qual : Str} {params : Arguments} {body : List Stmt} {scope : Scope} {f : Addr} {fd : FuncData}
theorem fdp_ok {N ps : List Str} {k : Nat} {p : Addr × Obj} {W : DW1} (hW : MonoW W) (F : FunD K x qual params body scope [] [] f fd) (S : FnScope N ps scope) (hm : mg x = some (.ref f)) (hlen : ∀ ds Q E, W ds Q E → ds.length = ps.length)
    (hbd : ∀ (kV doc pm : Value) (an : Option Addr) (cdv ct : Value) (us : List Value), us.length = ps.length → bindArgs (PySem.W.fnOf x qual params body scope .none kV doc pm an cdv ct) ⟨us, []⟩ = pure (ps.zip us))
    (hb : ∀ (cdv : Value) (A : Around) (outer : List Env) (s : Shared) (H : Hp) (E : XK) (so : Option Addr) (B : Hp), L2H.Hot1 A p → L2H.RoomH k (A.deeper (envOfC qual scope s.heap.objs.size f cdv)) →
      L2N.Takes (cxP P w K mg base N qual scope f cdv A outer s H E p) (fun cls d _ H => E cls d H) →
      ∃ wb, DSs ⟨K, so, B, H, fun _ => E⟩ (cxP P w K mg base N qual scope f cdv A outer s H E p) body wb ∧ ∀ ds Q E', W ds Q E' → wb (bodyEnds Q) (entry N.length ds) (fun e _ => E' e)) :
    FDP P w K mg base (k + 1) x ps.length p W := ⟨hW, f, fd, ps, rfl, hm, F.kp, fn_bodyP F S hlen hb, F.bindsN hbd⟩
end
section
variable {X : Cx} {k : Nat} {f : Addr} {fd : FuncData} {ps : List Str} {sp : Sp} {E : St → XK} {x : Str} {q pos : Pos} {e : Expr} {es : List Expr} {t : TA} {p : Addr × Obj}
theorem pe_callP (F : FnP X.prog X.w X.K X.mg X.base k f fd ps p sp) (hr : L2H.RoomH k X.A) (hh : L2H.Hot1 X.A p) (hp : p ∈ X.pn) (hg : Gl X x) (hm : X.mg x = some (.ref f)) (hk : PySem.W.keepIn X.K (.ref f) = true) (hb : Binds X.K fd ps []) (hx : ∀ σ, PassesAt (L2N.CX X.prog X.w) X σ (E σ))
    (ha : PA X (e :: es) t) (hdb : (x == ("__debug__" : Str)) = false := by decide) (he : starEach (e :: es) X.env = (false, eval e X.env) :: starEach es X.env := by rfl) (hpl : (backTo pos (starEach es X.env)).any (·.1) = false := by rfl) :
    PE X (.Call (.Name x q) (e :: es) [] pos) (tCallS sp E t) := by
  refine ⟨fun pins s σ H Q I h => wpAny_Call_Name_kw (ld_glob I hg hm ?_ hdb)⟩
  refine PySem.W.callWith_K (h₀ := X.base) I.ok.mod.kin hk (thn (ha.run pos pins s σ H _ I h) fun us s1 ⟨vs, H1, I1, r, q⟩ => ⟨I1.kIn, ?_⟩) he hpl
  have hlu : us.length = ps.length := by rw [← r.length]; exact F.len _ _ _ _ q
  have b := hb s1 us I1.kIn (by rw [List.append_nil]; exact hlu)
  rw [List.append_nil] at b
  have P1 := I1.pin p (List.mem_append_left _ hp)
  refine wpAny_call (codeAny_mono (F.run X.A X.stack s1 H1 ⟨us, []⟩ us vs Q (E σ) hr hh ⟨P1.1, P1.2.1, fun hm => ?_, P1.2.2.2.2⟩ I1.env0 b r q) fun r s' hq => ?_)
  · rcases List.mem_cons.mp (I1.stkSub p.1 hm) with z | z
    · exact P1.2.2.1 z
    · exact P1.2.2.2.1 z
  · cases r with
    | error e => exact hx σ pins H1 s1 e s' I1 hq
    | ok fl => cases fl with
      | ret u => exact I1.after hq
      | next => exact hq.elim
      | brk => exact hq.elim
      | cont => exact hq.elim
end
section
variable {G : Gx} {X : Cx} {e : Expr} {es : List Expr} {wr : DT (List Sl)} {p pos : Pos} {x : Str} {k n : Nat} {W : DW1} {pn : Addr × Obj}
theorem de_callP (F : FDP X.prog X.w X.K X.mg X.base k x n pn W) (hr : L2H.RoomH k X.A) (hh : L2H.Hot1 X.A pn) (hpn : pn ∈ X.pn) (hK : G.K = X.K) (tk : L2N.Takes X fun cls d σ H => G.EX σ cls d H) (ha : DA G X (e :: es) wr) (hn : es.length + 1 = n := by rfl) (hg : Gl X x := by rfl)
    (hdb : (x == ("__debug__" : Str)) = false := by decide) (he : starEach (e :: es) X.env = (false, eval e X.env) :: starEach es X.env := by rfl) (hpl : (backTo pos (starEach es X.env)).any (·.1) = false := by rfl) : DE G X (.Call (.Name x p) (e :: es) [] pos) (wCall W wr) := by
  obtain ⟨hW, f, fd, ps, hp, hm, hk, hF, hB⟩ := F
  refine ⟨wCall_mono hW ha.mono, pe_weak (pe_callP (E := fun σ => G.EX σ) hF hr hh hpn hg hm hk hB (fun σ => L2N.passAt tk σ) ha.pa hdb he hpl) fun σ H Q h => ?_⟩
  obtain ⟨ρ, τ, hA, hw⟩ := h
  refine ⟨ρ, τ, hA, ha.mono (fun xs ρ1 k nxs ln l vs H1 lv A1 => ?_) (fun _ _ e => e) hw⟩
  obtain ⟨B, h1, h2⟩ := A1.stills lv nxs
  rw [← hK]
  exact call_ends hW A1.len (by unfold datas; rw [List.length_map, ln]; exact hn) h2 h1 (hW (fun z q nz => q nz l) (fun _ q => q) k)
end

/-! ### an error is made -/
section
variable {X : Cx} {p pos : Pos} {e : Expr} {es : List Expr} {ta : TA}
theorem pmk_oexN {CX : CXT} {x : Str} {C fI : Addr} {k : Nat} {fd : FuncData} {ps : List Str} {sp : Sp} (T : OexC X.K C) (iC : PySem.W.findIn X.K (.ref C) "__init__" = some (some (.ref fI))) (tI : PySem.W.typeIn X.K (.ref fI) = some (.type "function"))
    (F1 : FnOk X.prog X.w X.K X.mg X.base CX k fI fd ps sp) (hr : Room (k + 1) X.A) (hb : Binds X.K fd ps []) (hx : Passes CX X (fun _ _ _ => False)) (hg : Gl X x) (hm : X.mg x = some (.ref C)) (ha : PA X (e :: es) ta)
    (hdb : (x == ("__debug__" : Str)) = false := by decide) (he : starEach (e :: es) X.env = (false, eval e X.env) :: starEach es X.env := by rfl) (hpl : (backTo pos (starEach es X.env)).any (·.1) = false := by rfl) :
    L2N.PMk X (.Call (.Name x p) (e :: es) [] pos) (tMkO C sp [] ta) := by
  intro pins s σ H Q I h
  have old := pmk_oex (X := X) (CX := CX) (x := x) (p := p) (pos := pos) T iC tI F1 hr hb .nil hx hg hm ha hdb he hpl pins s σ H
  obtain ⟨nm, q, N, bs, bm, sn, sub, ab, col, dd, k0, k1, k2, k3, k5, hC, hbm⟩ := T.cls
  refine wpAny_Call_Name_kw (ld_glob I hg hm ?_ hdb)
  refine PySem.W.callWith_K (h₀ := X.base) I.ok.mod.kin T.kC (thn (ha.run pos pins s σ H _ I h) fun us s1 ⟨vs, H1, I1, r1, hz, q1⟩ => ⟨I1.kIn, ?_⟩) he hpl
  show wpAny _ _ (call (.ref C) us) _ _ _
  obtain ⟨h0, g0, d0, t0, o0⟩ := s1
  have e1 : h0.objs.size ≤ h0.objs.size + 1 := Nat.le_succ _
  have q2 := q1 (h0.objs.size + 1) (I1.hok.fresh e1)
  rw [List.append_nil] at q2
  have kp2 : ∀ b o, h0.get? b = some o → ((h0.push (PySem.W.kdv_tup us)).push (PySem.HandSPX.excO C h0.objs.size)).get? b = some o := fun b o e => Heap.get?_push_of_some _ (Heap.get?_push_of_some _ e)
  have at2 : ((h0.push (PySem.W.kdv_tup us)).push (PySem.HandSPX.excO C h0.objs.size)).get? (h0.objs.size + 1) = some (PySem.HandSPX.excO C h0.objs.size) := by heap_get
  have I2 := I1.laid (t' := t0) (a := h0.objs.size + 1) (o := exo (h0.objs.size + 1) C none) (h' := (h0.push (PySem.W.kdv_tup us)).push (PySem.HandSPX.excO C h0.objs.size)) kp2 e1 (exo_ok at2)
  have rr2 : Vals (V.ref (h0.objs.size + 1) :: vs) (Value.ref (h0.objs.size + 1) :: us) := .cons rfl r1
  have ll : (Value.ref (h0.objs.size + 1) :: us ++ []).length = ps.length := by
    rw [List.append_nil, ← rr2.length]
    exact F1.len _ _ _ _ q2
  have ul : us.length ≤ sizeLine := by
    rw [← Paired.length r1, sizeLine_eq]
    omega
  have b2 := hb _ (Value.ref (h0.objs.size + 1) :: us) I2.kIn ll
  rw [List.append_nil] at b2
  refine wpAny_call (PySem.HandSPX.call_own F.excBase_ValueError (fun Y => PySem.HandSPX.refsVE_contains Y bm hbm) (I1.kIn _ _ hC) (PySem.W.looks_findIn I1.kIn iC) (fun self => PySem.W.bind_fn I1.kIn self tI) ul
    (codeAny_mono (F1.run _ X.stack _ _ ⟨Value.ref (h0.objs.size + 1) :: us, []⟩ _ _ _ (fun _ _ _ => False) (hr.make C us []) (I2.env0.make C us []) b2 rr2 q2) fun r s' hq' => ?_))
  cases r with
  | error er => exact hx pins σ _ _ er s' I2 hq'
  | ok fl =>
    cases fl with
    | ret u =>
      obtain ⟨v, H2, os2, bare2, un2, hok2, rv, ev, d, fs, ea, ed, hd1, q3⟩ := hq'
      subst ev
      obtain ⟨h2, g2, d2, t2, os'⟩ := s'
      obtain ⟨tx, G, J, kG, ge, hoe, na⟩ := mk_end0 (d2 := d2) (t2 := t2) I1 e1 kp2 un2 hok2 os2 bare2 ea ed hd1
      exact ⟨rv, h0.objs.size + 1, _, _, ⟨G, g2, d2, t2, os'⟩, _, .ref C, some d, rfl, J, kG, ge, hoe, ⟨rfl, rfl, fun vs hv => by cases hv; rfl⟩, rfl, rfl, na, rfl, bare2, raises_own T.exC T.tyC, q3⟩
    | next => exact hq'.elim
    | brk => exact hq'.elim
    | cont => exact hq'.elim
end
/-- a value that an f-string takes -/
def OkA (v : V) : Prop := (∃ z : Str, v = .str z ∧ z.length ≤ 100000) ∨ ∃ i : Int, v = .int i ∧ i.natAbs.log2 < 1920
def OkAD : D → Prop
  | .str z => z.length ≤ 100000
  | .int i => i.natAbs.log2 < 1920
  | _ => False
theorem OkAD.v {K : PySem.W.Frag} {so : Option Addr} {B : Hp} {v : V} {d : D} (h : Rp K so B v d) (k : OkAD d) : OkA v := by
  cases d <;> first
    | exact k.elim
    | (cases h; exact .inl ⟨_, rfl, k⟩)
    | (cases h; exact .inr ⟨_, rfl, k⟩)
/-- the promise of an error's __init__: the field f gets the value -/
def spInit (C : Addr) (f : Str) : Sp := fun vs H Q _ => ∃ a v, vs = [.ref a, v] ∧ H a = some (exo a C none) ∧ OkA v ∧ ∀ dx, H dx = none → dx ≠ a → Q .non (upd (upd H dx (exd dx [(f, v)])) a (exo a C (some dx)))
/-- a class of errors whose __init__ takes its field's value -/
structure ErC (P : Program) (w : World) (K : PySem.W.Frag) (mg : Str → Option Value) (base : Heap) (c : Str) : Prop where
  hm : mg c = some (.ref (He.ga K c))
  ox : OexC K (He.ga K c)
  ini : ∃ fI fd ps, PySem.W.findIn K (.ref (He.ga K c)) "__init__" = some (some (.ref fI)) ∧ PySem.W.typeIn K (.ref fI) = some (.type "function") ∧ FnOk P w K mg base (L2N.CX P w) 1 fI fd ps (spInit (He.ga K c) (fieldOf c)) ∧ Binds K fd ps []
/-- raise c(e) -/
def wRaise (c : Str) (w : DT Sl) : DS := fun _ ρ E => w ρ (fun x ρ1 => OkAD x.dat ∧ E ⟨c, some x.dat⟩ ρ1) E
section
variable {G : Gx} {X : Cx} {e : Expr} {we : DT Sl} {p pos pos' : Pos} {c : Str}
theorem ds_raise (T : ErC X.prog X.w X.K X.mg X.base c) (hc : X.calm = true) (hr : Room 2 X.A) (hK : G.K = X.K) (tk : L2N.Takes X fun cls d σ H => G.EX σ cls d H) (he : DE G X e we) (hg : Gl X c := by rfl)
    (hdb : (c == ("__debug__" : Str)) = false := by decide) (hst : starEach [e] X.env = (false, eval e X.env) :: starEach [] X.env := by rfl) :
    DSt G X (.Raise (some (.Call (.Name c p) [e] [] pos)) none pos') (wRaise c we) := by
  obtain ⟨fI, fd, ps, h1, h2, h3, h4⟩ := T.ini
  refine ⟨fun ρ N N' E E' h _ hE => he.mono (fun x ρ1 k => ⟨k.1, hE _ _ k.2⟩) hE h, ps_weak (L2N.ps_raise hc tk (pmk_oexN (CX := L2N.CX X.prog X.w) T.ox h1 h2 h3 hr h4 (L2N.passes_call tk fun _ _ _ _ z => z.elim) hg T.hm (pa_cons he.pe pa_nil hst) hdb hst rfl)) fun D σ H h => ?_⟩
  obtain ⟨ρ, τ, hA, hw⟩ := h
  refine ⟨ρ, τ, hA, he.mono (fun x ρ1 k nx l v H1 A1 => ⟨by show 1 ≤ 1000; decide, fun a ha => ?_⟩) (fun _ _ e => e) hw⟩
  obtain ⟨B, q1, q2⟩ := A1.still nx
  refine ⟨a, v, rfl, upd_same, k.1.v q1, fun dx hdx hda => ⟨rfl, dx, [(fieldOf c, v)], upd_same, ?_, ?_, ?_⟩⟩
  · rw [upd_ne hda, upd_same]
  · rw [upd_ne hda] at hdx; exact hdx
  · have hdx1 : H1 dx = none := by rw [upd_ne hda] at hdx; exact hdx
    have e1 : upd (del (upd (upd (upd H1 a (exo a (He.ga X.K c) none)) dx (exd dx [(fieldOf c, v)])) a (exo a (He.ga X.K c) (some dx))) a) dx (.xd [(fieldOf c, v)]) = upd H1 dx (.xd [(fieldOf c, v)]) := by
      funext b
      by_cases hb : b = dx
      · rw [hb, upd_same, upd_same]
      · rw [upd_ne hb, upd_ne hb]
        by_cases hba : b = a
        · rw [hba, del_same, ha]
        · rw [del_ne hba, upd_ne hba, upd_ne hb, upd_ne hba]
    rw [e1]
    refine k.2 σ _ (some dx) _ _ A1.len (q2.newB (o := .xd [(fieldOf c, v)]) hdx1) ⟨by rw [hK], dx, v, rfl, upd_same, q1.mono (same_upd (q2.free hdx1))⟩
end

/-! ### .. and caught -/
theorem Rel.ex {K : PySem.W.Frag} {so : Option Addr} {B0 H0 : Hp} {E E' : L2.St → XK} {R : Roots} {H B : Hp} (h : Rel ⟨K, so, B0, H0, E⟩ R H B) : Rel ⟨K, so, B0, H0, E'⟩ R H B := ⟨h.lo, h.hi, h.fr, h.nw, h.rep, h.nd, h.ap, h.st⟩
/-- G with another wish about errors -/
abbrev Gx.wish (G : Gx) (E : L2.St → XK) : Gx := ⟨G.K, G.so, G.B0, G.H0, E⟩
theorem Rel.wish {G : Gx} {E : L2.St → XK} {R : Roots} {H B : Hp} (h : Rel G R H B) : Rel (G.wish E) R H B := Rel.ex (E := G.EX) h
theorem Rel.unwish {G : Gx} {E : L2.St → XK} {R : Roots} {H B : Hp} (h : Rel (G.wish E) R H B) : Rel G R H B := Rel.ex (E' := G.EX) h
theorem At.wish {G : Gx} {E : L2.St → XK} {σ : St} {ρ : DEnv} {τ : Roots} {H : Hp} (h : At G σ ρ τ H) : At (G.wish E) σ ρ τ H := let ⟨B, r⟩ := h.rel; ⟨h.len, B, r.wish⟩
theorem At.unwish {G : Gx} {E : L2.St → XK} {σ : St} {ρ : DEnv} {τ : Roots} {H : Hp} (h : At (G.wish E) σ ρ τ H) : At G σ ρ τ H := let ⟨B, r⟩ := h.rel; ⟨h.len, B, r.unwish⟩
def DEn.un (N : DEn) (i : Nat) : DEn := ⟨fun ρ => N.nx (ρ.set i .un), N.rt, fun ρ => N.bk (ρ.set i .un), fun ρ => N.ct (ρ.set i .un)⟩
def noE : EC := fun _ _ => False
/-- try: body; except ..: suite: the errors of the classes that ca tells -/
def wTry (ca : Str → Option Bool) (i : Nat) (wb : DS) (ws : Addr → Obj → DS) : DS := fun D ρ E => wb D ρ fun e ρ1 => ρ1.length = ρ.length ∧ match ca e.c with
  | some true => ∀ a oe, PXN.CtxN oe → (∃ vs, oe.data = .fields vs) → ws a oe (D.un i) (ρ1.set i (.sh (.exc e.c e.a a oe))) noE
  | some false => E e ρ1
  | none => False
theorem At.drop_slot {G : Gx} {σ : St} {ρ : DEnv} {τ : Roots} {H : Hp} (i : Nat) (h : At G σ ρ τ H) : At G (σ.set i none) (ρ.set i .un) τ H := by
  refine ⟨by rw [List.length_set, List.length_set]; exact h.len, ?_⟩
  obtain ⟨B, hr⟩ := h.rel
  by_cases hi : i < ρ.length
  · obtain ⟨L, R, u, h1, h2, h3⟩ := zip_split h.len (List.getElem?_eq_getElem hi)
    have e4 : (σ.set i none).zip (ρ.set i .un) = L ++ (none, Sl.un) :: R := by
      rw [set_zip]
      have hl : L.length = i := by
        have key : ∀ (σ : St) (ρ : DEnv) (i : Nat) (x : Sl), ρ.length = σ.length → ρ[i]? = some x → ∀ (L R : Roots) (v : Option V), (∀ y, σ.zip (ρ.set i y) = L ++ (v, y) :: R) → L.length = i := by
          intro σ ρ i x l e L R v hy
          have a1 : (σ.zip (ρ.set i .un))[L.length]? = some (v, .un) := by rw [hy]; simp
          have a2 : (σ.zip (ρ.set i (.sh .non)))[L.length]? = some (v, .sh .non) := by rw [hy]; simp
          by_cases q : L.length = i
          · exact q
          · rw [List.getElem?_zip_eq_some] at a1 a2
            have c1 := a1.2
            have c2 := a2.2
            rw [List.getElem?_set_ne (Ne.symm q)] at c1 c2
            rw [c1] at c2
            cases c2
        exact key σ ρ i _ h.len (List.getElem?_eq_getElem hi) L R u h3
      rw [h2, List.set_append_right _ _ (by omega), hl, Nat.sub_self]
      rfl
    refine ⟨B, ?_⟩
    rw [e4]
    rw [h2] at hr
    refine ⟨hr.lo, hr.hi, hr.fr, hr.nw, fun r hm => ?_, ?_, fun q hq => ?_, hr.st⟩
    · simp only [List.mem_append, List.mem_cons] at hm
      rcases hm with (hm | rfl | hm) | hm
      · exact hr.rep r (by simp [hm])
      · trivial
      · exact hr.rep r (by simp [hm])
      · exact hr.rep r (by simp [hm])
    · have := hr.nd
      rw [feet_append, feet_split] at this ⊢
      refine this.sublist (List.Sublist.append (List.Sublist.append (List.Sublist.refl _) ?_) (List.Sublist.refl _))
      show (([] : List Addr) ++ feet R).Sublist _
      exact List.sublist_append_right _ _
    · refine hr.ap q ?_
      rw [feet_append, feet_split] at hq ⊢
      simp only [List.mem_append] at hq ⊢
      rcases hq with (hq | hq | hq) | hq
      · exact .inl (.inl hq)
      · cases hq
      · exact .inl (.inr (.inr hq))
      · exact .inr hq
  · have e1 : ρ.set i .un = ρ := List.set_eq_of_length_le (by omega)
    have e2 : σ.set i none = σ := List.set_eq_of_length_le (by have := h.len; omega)
    rw [e1, e2]
    exact ⟨B, hr⟩
section
variable {G : Gx} {X : Cx} {body suite : List Stmt} {b0 : Stmt} {wb : DS} {ws : Addr → Obj → DS} {np pos pos' : Pos} {n c : Str} {ca : Str → Option Bool}
theorem ds_try (i : Nat) (hs : X.stack = X.env :: X.outer) (hf : X.env.frame = some X.env.locals) (hN : X.N.Nodup) (hc : X.mg c = some (.ref (He.ga X.K c))) (hca : ∀ x b, ca x = some b → PySem.W.exmOne X.K (.ref (He.ga X.K x)) (.ref (He.ga X.K c)) = some b) (hK : G.K = X.K)
    (tk : L2N.Takes X fun cls d σ H => G.EX σ cls d H)
    (hb : ∀ (E : L2.St → XK) (pn : List (Addr × Obj)) (xe : Value → Shared → Prop), L2N.Takes (X.tr pn xe) (fun cls d σ H => E σ cls d H) → DSs (G.wish E) (X.tr pn xe) body wb)
    (hsu : ∀ (a : Addr) (oe : Obj) (pn : List (Addr × Obj)), PXN.CtxN oe → (∃ vs, oe.data = .fields vs) → DSs (G.wish fun _ _ _ _ => False) (X.suite a ((a, oe) :: pn)) (b0 :: suite) (ws a oe))
    (hi : X.N[i]? = some n := by rfl) (hln : X.env.kindOf n = some .local := by rfl) (hg : Gl X c := by rfl) (hdb : (c == ("__debug__" : Str)) = false := by decide) :
    DSt G X (.Try body [.ExceptHandler (some (.Name c np)) (some n) (b0 :: suite) pos'] [] [] pos) (wTry ca i wb ws) := by
  have hwb : MonoS wb := (hb (fun _ _ _ _ => True) [] (fun _ _ => True) fun _ _ _ => trivial).mono
  have hws : ∀ a oe, PXN.CtxN oe → (∃ vs, oe.data = .fields vs) → MonoS (ws a oe) := fun a oe h1 h2 => (hsu a oe [] h1 h2).mono
  refine ⟨fun ρ D D' E E' h hd he => ?_, ps_weak (L2N.ps_try_as (c := .ref (He.ga X.K c)) (Wout := fun cls d σ H => G.EX σ cls d H) (tb := fun W => tS (G.wish fun σ cls d H => W cls d σ H) wb)
      (ts := fun a cls d D σ H => ∀ oe, L2N.Zn cls d oe → (∃ vs, oe.data = .fields vs) → tS (G.wish fun _ _ _ _ => False) (ws a oe) D σ H)
      hs hf hN hi hln ⟨hg, hdb, .inl hc⟩ tk (fun W pn xe tk' _ => (hb (fun σ cls d H => W cls d σ H) pn xe tk').ps) (fun a oe cls d pn hz hv => ⟨fun pins s σ H D I h => (hsu a oe pn hz.2.2 hv).ps.run pins s σ H D I (h oe hz hv)⟩)) fun D σ H h => ?_⟩
  · refine hwb h hd fun e ρ1 k => ⟨k.1, ?_⟩
    replace k := k.2
    split at k
    · rename_i hcc
      exact fun a oe c1 c2 => hws a oe c1 c2 (k a oe c1 c2) ⟨fun ρ k => hd.nx _ k, hd.rt, fun ρ k => hd.bk _ k, fun ρ k => hd.ct _ k⟩ (fun _ _ z => z)
    · exact he _ _ k
    · exact k.elim
  · obtain ⟨ρ, τ, hA, hw⟩ := h
    refine ⟨ρ, τ, hA.wish, hwb hw ⟨fun ρ' k l σ' H' A' => k l σ' H' A'.unwish, fun x ρ' k nx l v σ' H' A' => k nx l v σ' H' A'.unwish, fun ρ' k l σ' H' A' => k l σ' H' A'.unwish, fun ρ' k l σ' H' A' => k l σ' H' A'.unwish⟩ fun er ρ1 k σ1 cls d H1 B1 l1 r1 hx => ?_⟩
    have lenQ := k.1
    replace k := k.2
    split at k
    · rename_i hcc
      obtain ⟨hcl, hx2⟩ := hx
      refine ⟨true, ?_, fun _ a ha oe hz hv => ?_, fun z => by cases z⟩
      · rw [hcl]
        show PySem.W.exmOne X.K (.ref (He.ga G.K er.c)) _ = _
        rw [hK]
        exact hca _ _ hcc
      · have rp : Rp G.K G.so B1 (.ref a) (.exc er.c er.a a oe) := by
          rw [hcl] at hz
          cases hea : er.a with
          | none =>
            rw [hea] at hx2
            have hd : d = none := hx2
            subst hd
            exact .exn hz hv
          | some y =>
            rw [hea] at hx2
            obtain ⟨dd, v, hd, h1, h2⟩ := hx2
            subst hd
            exact .exa hz hv h1 h2
        have A1 : At (G.wish fun _ _ _ _ => False) (σ1.set i (some (.ref a))) (ρ1.set i (.sh (.exc er.c er.a a oe))) τ H1 := At.wish (At.store i (At.addSh l1 r1.unwish rp))
        refine ⟨_, τ, A1, hws a oe hz.2.2 hv (k a oe hz.2.2 hv) ⟨fun ρ' k l σ' H' A' => ?_, fun x ρ' k nx l v σ' H' A' => ?_, fun ρ' k l σ' H' A' => ?_, fun ρ' k l σ' H' A' => ?_⟩ (fun _ _ z => z.elim)⟩
        · exact k (by rw [List.length_set, l, List.length_set]; exact lenQ) _ H' (A'.unwish.drop_slot i)
        · exact k nx (by rw [l, List.length_set]; exact lenQ) v σ' H' A'.unwish
        · exact k (by rw [List.length_set, l, List.length_set]; exact lenQ) _ H' (A'.unwish.drop_slot i)
        · exact k (by rw [List.length_set, l, List.length_set]; exact lenQ) _ H' (A'.unwish.drop_slot i)
    · refine ⟨false, ?_, fun z => (by cases z), fun _ => ?_⟩
      · rw [hx.1]
        show PySem.W.exmOne X.K (.ref (He.ga G.K er.c)) _ = _
        rw [hK]
        exact hca _ _ (by assumption)
      · exact k σ1 cls d H1 B1 l1 r1.unwish hx
    · exact k.elim
end
end DL
set_option Elab.async false
set_option maxRecDepth 100000
set_option maxHeartbeats 4000000
set_option linter.unusedVariables false
/-! data-level layer, part i: errors' __init__ and fields, subscripts, + of all kinds, appends, unpacking, constants, calls by keywords -/
namespace DL
open PySem PySem.Spec PyProof.Rows L2 NdefX

/-! ### self.f = v behind super().__init__(..) -/
section
variable {X : Cx}
/-- the reading of an f-string over one value -/
theorem pe_fsA {y z : Str} {i j : Nat} {p q r pos : Pos} {te : TE} (he : PE X (.Name y p) te) : PE X (.JoinedStr [.FormattedValue (.Name y p) (-1) none q, .Constant (.str z) j r] pos) (fun σ H Q => tJs [tFmt te, tC (.str z)] Str.empty σ H fun out H1 => Q (.str out) H1) :=
  pe_joined (.cons (pe_fmt he) (.cons pe_str .nil))
theorem str_len_app (x y : Str) : (x ++ y).length = x.length + y.length := Str.length_append x y
/-- te gives some text of a value that an f-string takes, at slot 1 -/
def FsRd (te : TE) : Prop := ∀ (σ : L2.St) (H : Hp) (v : V) (Q : VK), σ[1]? = some (some v) → OkA v → (∀ out, Q (.str out) H) → te σ H Q
theorem okA_len {v : V} (h : OkA v) {Q : V → Prop} (k : ∀ z : Str, z.length ≤ 100000 → Q (.str z)) : (∃ y : Str, v = .str y ∧ y.length ≤ sizeLine ∧ Q (.str y)) ∨ ∃ i : Int, v = .int i ∧ i.natAbs.log2 < 1920 ∧ Q (.str (toString i)) := by
  rcases h with ⟨z, e, hz⟩ | ⟨i, e, hi⟩
  · exact .inl ⟨z, e, by rw [sizeLine_eq]; omega, k z hz⟩
  · refine .inr ⟨i, e, hi, k _ ?_⟩
    have := PySem.int_text_length_le (a := i) (k := 1920) (by decide) hi
    rw [show (Str.ofString (toString i)).length = (toString i).length from by rw [Str.ofString_eq_toList]; simp only [Str.length, List.size_toArray, List.length_map, String.length_toList]]
    omega
theorem fsA {z : Str} (hz : z.length ≤ 1000) : FsRd (fun σ H Q => tJs [tFmt (tVar 1), tC (.str z)] Str.empty σ H fun out H1 => Q (.str out) H1) := fun σ H v Q hv ha k => by
  refine ⟨v, hv, okA_len ha (Q := fun x => ∃ y : Str, x = .str y ∧ (Str.empty ++ y).length ≤ sizeLine ∧ tJs [tC (.str z)] (Str.empty ++ y) σ H fun out H1 => Q (.str out) H1) fun y hy => ⟨y, rfl, ?_, z, rfl, ?_, k _⟩⟩
  · rw [str_len_app, sizeLine_eq]; show 0 + _ ≤ _; omega
  · rw [str_len_app, str_len_app, sizeLine_eq]; show 0 + _ + _ ≤ _; omega
end
section
variable {P : Program} {w : World} {K : PySem.W.Frag} {mg : Str → Option Value} {base : Heap} {C fI : Addr} {F : NF} {doc pm ctv : Value} {CX : CXT}
theorem init_ok {y f : Str} {e : Expr} {te : TE} {p0 p1 p2 p3 p4 a1 a2 a3 a4 : Pos} (S : SupC P K C fI F doc pm ctv) (ms : mg "super" = none) (Sc : NScope [("self" : Str), y, "__class__"] [("self" : Str), y] ["__class__"] F.scope)
    (hbd : F.body = [.Expr (.Call (.Attribute (.Call (.Name "super" p0) [] [] p1) "__init__" p2) [e] [] p3) p4, .Assign [.Attribute (.Name "self" a1) f a2] (.Name y a3) a4])
    (hpe : ∀ X : Cx, X.N = [("self" : Str), y, "__class__"] → X.env.scope = F.scope → PE X e te) (hrd : FsRd te) (hno : PySem.W.findIn K (.ref C) f = some none)
    {ar : Arg} (har : (F.params.posonlyargs ++ F.params.args).head? = some ar) (harn : ar.arg = "self") (hks : F.scope.names.lookup ("super" : Str) = some .globalImplicit)
    (hst : ∀ env : Env, starEach [e] env = (false, eval e env) :: starEach [] env)
    (hev : ∀ env : Env, eval (.Call (.Attribute (.Call (.Name "super" p0) [] [] p1) "__init__" p2) [e] [] p3) env = (do
      let ov ← attributeBase (.Call (.Name "super" p0) [] [] p1) "__init__" env (eval (.Call (.Name "super" p0) [] [] p1) env)
      standAt p2.atName
      let (f, first) ← holding [ov] (getMethod ov "__init__" (pure false))
      callWith p3 f first (backTo p3 (starEach [e] env)) []))
    (hyd : (y == ("__debug__" : Str)) = false) (hyc : (y == ("__classdict__" : Str)) = false) :
    FnOk P w K mg base CX 1 fI (F.fd doc pm ctv) [("self" : Str), y] (spInit C f) := by
  have ls : F.scope.names.lookup ("self" : Str) = some .local := Sc.par _ (by simp)
  have ly : F.scope.names.lookup y = some .local := Sc.par _ (by simp)
  have lc : F.scope.names.lookup ("__class__" : Str) = some .free := Sc.frk _ (by simp)
  refine sup_ok (p5 := p4) S ms Sc hbd har (by rw [harn]; rfl) hks lc (by rw [harn]; exact ls) (fun vs H Q E h => ?_) hst (fun env => rfl) hev (fun A outer s H vs Q E hr h => ?_)
  · obtain ⟨a, v, rfl, _⟩ := h; rfl
  · obtain ⟨a, v, rfl, ha, hok, q⟩ := h
    refine ⟨te, _, a, hpe _ rfl rfl, pss_one (ps_ost (pe_var (i := 0) rfl (.inl ls)) (pe_var (i := 1) rfl (.inl ly) hyd hyc) rfl), rfl, ha, hrd _ _ v _ rfl hok fun out => ⟨ha, v, rfl, .ref a, rfl, a, C, rfl, S.ox, hno, .inl ⟨ha, fun dx h1 h2 => q dx h1 h2⟩⟩⟩
end

/-! ### an error's field -/
/-- what the written part says of an error's class, for its field to be read -/
def XfK (K : PySem.W.Frag) (c : Str) : Prop := XfC K (He.ga K c) ∧ PySem.W.findIn K (.ref (He.ga K c)) (fieldOf c) = some none
/-- e.f, e an error of a class that ok tells -/
def wXf (ok : Str → Bool) (pn : List (Addr × Obj)) (f : Str) (we : DT Sl) : DT Sl := fun ρ Q E => we ρ (fun x ρ1 => match x.dat with
  | .exc c (some a) p oe => ok c = true ∧ fieldOf c = f ∧ (p, oe) ∈ pn ∧ Q (.sh a) ρ1
  | _ => False) E
theorem wXf_mono {ok : Str → Bool} {pn : List (Addr × Obj)} {f : Str} {we : DT Sl} (h : Mono we) : Mono (wXf ok pn f we) := fun _ _ _ _ _ hq he q => h (fun x ρ1 k => by
  split at k
  · exact ⟨k.1, k.2.1, k.2.2.1, hq _ _ k.2.2.2⟩
  · exact k.elim) he q
section
variable {G : Gx} {X : Cx} {e a b : Expr} {we wa wb : DT Sl} {pos p : Pos} {f : Str}
theorem de_xf (ok : Str → Bool) (hok : ∀ c, ok c = true → XfK X.K c) (hK : G.K = X.K) (he : DE G X e we) (hb : attributeBase e f X.env (eval e X.env) = eval e X.env := by rfl) : DE G X (.Attribute e f pos) (wXf ok X.pn f we) := by
  refine ⟨wXf_mono he.mono, ⟨fun pins s σ H Q I h => attr_of hb ?_⟩⟩
  obtain ⟨ρ, τ, hA, hw⟩ := h
  refine thn (he.pe.run pins s σ H (fun v H1 => ∃ y dd c C oe a, v = .ref y ∧ C = He.ga X.K c ∧ ok c = true ∧ fieldOf c = f ∧ (y, oe) ∈ X.pn ∧ L2N.Zn (.ref C) (some dd) oe ∧ (∃ vs, oe.data = .fields vs) ∧ H1 dd = some (.xd [(f, a)]) ∧ Q a H1) I ⟨ρ, τ, hA, he.mono (fun x ρ1 k nx l v H1 A1 => ?_) (fun _ _ e => e) hw⟩) fun u s1 hh => ?_
  · obtain ⟨B, h1, h2⟩ := A1.still nx
    split at k
    · rename_i c a y oe ex
      rw [ex] at h1
      cases h1 with
      | @exa _ dd _ _ v _ hz hf hd hv =>
        refine ⟨y, dd, c, _, oe, v, rfl, rfl, k.1, k.2.1, k.2.2.1, by rw [← hK]; exact hz, hf, by rw [← k.2.1]; exact h2.hi _ _ hd, k.2.2.2 (fun z => by cases z) l v H1 (At.addSh A1.len h2 hv)⟩
    · exact k.elim
  · obtain ⟨x, H1, I1, rx, y, dd, c, C, oe, a, ex, eC, k1, k2, hp, hz, ⟨vs, hd⟩, hdd, q⟩ := hh
    subst ex
    obtain rfl : u = Value.ref y := rx
    have T := hok c k1
    rw [XfK, ← eC, k2] at T
    have hx : ObjOk X.prog X.w H1 s1.heap dd (.xd [(f, a)]) := I1.hok dd _ hdd
    obtain ⟨mA, hns, hr⟩ := hx
    obtain ⟨od, ho, hl⟩ := lookIn_ns hns
    obtain ⟨u, hu, ru⟩ := RelO.some_of (v := a) (o := mA f) (by have := hr f; simpa using this)
    have J : PySem.W.InstAt s1.heap y oe C (some od) := ⟨(I1.pin (y, oe) (List.mem_append_left _ hp)).1, hz.1, by unfold PySem.W.notCls; rw [hd] <;> rfl, by rw [hz.2.1]; exact ho⟩
    exact HandSPX.exc_get I1.kIn J T.1.ga T.1.gg T.1.exC (PySem.W.findObj_own T.1.hdC T.2 rfl (by rw [hl, hu])) (handed_of ru) ⟨a, H1, I1.tok _, ru, q⟩

/-! ### subscripts -/
def atD (ds : List D) (i : Int) : Option D := atI ds i
def roIx : RO2 := fun d e Q => match e with
  | .int i => (match d with
    | .lst ds => ∃ x, atD ds i = some x ∧ Q (.sh x)
    | .tup ds => ∃ x, atD ds i = some x ∧ Q (.sh x)
    | .scr ns => ∃ x, atI ns i = some x ∧ Q (.sh (.int x))
    | .str z => z.length ≤ sizeLine ∧ ∃ c, atI z.cps.toList i = some c ∧ Q (.sh (.str ⟨#[c]⟩))
    | _ => False)
  | _ => False
theorem roIx_mono : MonoO roIx := fun d e _ _ hq h => by
  unfold roIx at h ⊢
  split at h
  · split at h
    · exact ⟨h.choose, h.choose_spec.1, hq _ h.choose_spec.2⟩
    · exact ⟨h.choose, h.choose_spec.1, hq _ h.choose_spec.2⟩
    · exact ⟨h.choose, h.choose_spec.1, hq _ h.choose_spec.2⟩
    · exact ⟨h.1, h.2.choose, h.2.choose_spec.1, hq _ h.2.choose_spec.2⟩
    · exact h
  · exact h
theorem atI_rps {K : PySem.W.Frag} {so : Option Addr} {B : Hp} {vs : List V} {ds : List D} {i : Int} {x : D} (h : Rps K so B vs ds) (e : atD ds i = some x) : ∃ v, atI vs i = some v ∧ Rp K so B v x := by
  unfold atD atI at e
  rw [Option.bind_eq_some_iff] at e
  obtain ⟨j, e1, e2⟩ := e
  obtain ⟨v, e3, e4⟩ := h.get e2
  exact ⟨v, by unfold atI; rw [h.len, e1]; exact e3, e4⟩
theorem od_ix : OpD G (rIx G.K) roIx := by
  intro σ ρ τ x y d e H B Q l hr hx hy h
  unfold roIx at h
  split at h
  · rename_i i
    cases hy
    split at h
    · obtain ⟨z, h1, h2⟩ := h
      cases hx with
      | lst hs hv =>
        obtain ⟨v, e1, e2⟩ := atI_rps hv h1
        exact .inl ⟨_, _, i, v, rfl, rfl, .inl (.inl (hr.hi _ _ hs)), e1, h2 (fun z => by cases z) _ _ (At.addSh l hr e2)⟩
    · obtain ⟨z, h1, h2⟩ := h
      cases hx with
      | tup hs hv =>
        obtain ⟨v, e1, e2⟩ := atI_rps hv h1
        exact .inr (.inl ⟨_, _, i, v, rfl, rfl, sqT_same hr.hi hs, e1, h2 (fun z => by cases z) _ _ (At.addSh l hr e2)⟩)
    · rename_i ns
      obtain ⟨z, h1, h2⟩ := h
      cases hx with
      | scr hs =>
        refine .inl ⟨_, _, i, .int z, rfl, rfl, hr.hi.seq hs, ?_, h2 (fun z => by cases z) _ _ (At.addSh l hr (.int _))⟩
        unfold atI at h1 ⊢
        rw [Option.bind_eq_some_iff] at h1
        obtain ⟨j, e1, e2⟩ := h1
        rw [List.length_map, e1]
        show (ns.map V.int)[j]? = _
        rw [List.getElem?_map, e2]; rfl
    · obtain ⟨h0, z, h1, h2⟩ := h
      cases hx
      exact .inr (.inr ⟨_, i, z, rfl, rfl, h0, h1, h2 (fun z => by cases z) _ _ (At.addSh l hr (.str _))⟩)
    · exact h.elim
  · exact h.elim
abbrev wIx := wOp roIx
theorem de_ix (hK : G.K = X.K) (ha : DE G X a wa) (hb : DE G X b wb) (hs : PlainIx b := by exact fun _ _ => rfl) : DE G X (.Subscript a b pos) (wIx wa wb) :=
  ⟨wOp_mono roIx_mono ha.mono hb.mono, pe_weak (pe_ix ix_seq ha.pe hb.pe hs) fun σ H Q h => by rw [← hK]; exact two_parts od_ix roIx_mono ha.mono hb.mono h⟩

/-! ### + and * of all kinds -/
theorem opR_or {X : Cx} {f : Value → Value → Sem Value} {r1 r2 : R2} (h1 : OpR X f r1) (h2 : OpR X f r2) : OpR X f (fun x y H Q => r1 x y H Q ∨ r2 x y H Q) := by
  intro pins s σ H x y u v Q I rx ry h
  rcases h with h | h
  · exact h1 pins s σ H x y u v Q I rx ry h
  · exact h2 pins s σ H x y u v Q I rx ry h
def roAdd : RO2 := fun d e Q => match d, e with
  | .int i, .int j => Q (.sh (.int (i + j)))
  | .str x, .str y => x.length + y.length ≤ sizeLine ∧ Q (.sh (.str (x ++ y)))
  | .lst ds, .lst es => ds.length + es.length ≤ sizeLine ∧ ∀ p, Q (.ow p (ds ++ es))
  | _, _ => False
theorem roAdd_mono : MonoO roAdd := fun d e _ _ hq h => by
  unfold roAdd at h ⊢
  split at h
  · exact hq _ h
  · exact ⟨h.1, hq _ h.2⟩
  · exact ⟨h.1, fun p => hq _ (h.2 p)⟩
  · exact h
theorem od_add : OpD G (fun x y H Q => (rI0 (fun i j => .int (i + j)) x y H Q ∨ (∃ i j, x = .str i ∧ y = .str j ∧ i.length + j.length ≤ sizeLine ∧ Q (.str (i ++ j)) H)) ∨ rCat x y H Q) roAdd := by
  intro σ ρ τ x y d e H B Q l hr hx hy h
  unfold roAdd at h
  split at h
  · cases hx; cases hy
    exact .inl (.inl ⟨_, _, rfl, rfl, h (fun z => by cases z) _ _ (At.addSh l hr (.int _))⟩)
  · cases hx; cases hy
    exact .inl (.inr ⟨_, _, rfl, rfl, h.1, h.2 (fun z => by cases z) _ _ (At.addSh l hr (.str _))⟩)
  · cases hx with
    | lst hs hv => cases hy with
      | lst hs2 hv2 =>
        exact .inr ⟨_, _, _, _, rfl, rfl, hr.hi _ _ hs, hr.hi _ _ hs2, by rw [hv.len, hv2.len]; exact h.1, fun p hp => h.2 p (fun z => by cases z) _ _ (At.addOw l hr hp (hv.append hv2))⟩
  · exact h.elim
theorem de_addA (ha : DE G X a wa) (hb : DE G X b wb) : DE G X (.BinOp a .Add b pos) (wOp roAdd wa wb) := de_op (opR_or (opR_or op_add op_add_str) op_cat) od_add roAdd_mono ha hb

/-! ### in, not in, of flat things -/
def flatOf : D → Option V
  | .non => some .non
  | .bl b => some (.bl b)
  | .int i => some (.int i)
  | .str z => some (.str z)
  | _ => none
def flatsOf : List D → Option (List V)
  | [] => some []
  | d :: ds => match flatOf d, flatsOf ds with
    | some v, some vs => some (v :: vs)
    | _, _ => none
def roIn (neg : Bool) : RO2 := fun d e Q => match e with
  | .lst es => ∃ v vs, flatOf d = some v ∧ flatsOf es = some vs ∧ Q (.sh (.bl (if neg then !inV v vs else inV v vs)))
  | .tup es => ∃ v vs, flatOf d = some v ∧ flatsOf es = some vs ∧ Q (.sh (.bl (if neg then !inV v vs else inV v vs)))
  | _ => False
theorem roIn_mono {neg : Bool} : MonoO (roIn neg) := fun d e _ _ hq h => by
  unfold roIn at h ⊢
  split at h
  · obtain ⟨v, vs, h1, h2, h3⟩ := h; exact ⟨v, vs, h1, h2, hq _ h3⟩
  · obtain ⟨v, vs, h1, h2, h3⟩ := h; exact ⟨v, vs, h1, h2, hq _ h3⟩
  · exact h
theorem flat_rp {K : PySem.W.Frag} {so : Option Addr} {B : Hp} {v u : V} {d : D} (h : Rp K so B v d) (e : flatOf d = some u) : v = u ∧ flatV u = true := by
  cases d <;> first
    | (cases e; cases h; exact ⟨rfl, rfl⟩)
    | cases e
theorem flats_rps {K : PySem.W.Frag} {so : Option Addr} {B : Hp} : ∀ {vs us : List V} {ds : List D}, Rps K so B vs ds → flatsOf ds = some us → vs = us ∧ us.all flatV = true
  | _, _, _, .nil, e => by cases e; exact ⟨rfl, rfl⟩
  | _, _, _, .cons h r, e => by
    unfold flatsOf at e
    split at e
    · rename_i e1 e2
      cases e
      obtain ⟨rfl, f1⟩ := flat_rp h e1
      obtain ⟨rfl, f2⟩ := flats_rps r e2
      exact ⟨rfl, by rw [List.all_cons, f1, f2]; rfl⟩
    · cases e
theorem od_in {neg : Bool} : OpD G (rIn G.K neg) (roIn neg) := by
  intro σ ρ τ x y d e H B Q l hr hx hy h
  unfold roIn at h
  split at h
  · obtain ⟨v, vs, h1, h2, h3⟩ := h
    cases hy with
    | lst hs hv =>
      obtain ⟨rfl, f1⟩ := flat_rp hx h1
      obtain ⟨rfl, f2⟩ := flats_rps hv h2
      exact ⟨_, _, rfl, .inl (.inl (.inl (hr.hi _ _ hs))), f1, f2, h3 (fun z => by cases z) _ _ (At.addSh l hr (.bl _))⟩
  · obtain ⟨v, vs, h1, h2, h3⟩ := h
    cases hy with
    | tup hs hv =>
      obtain ⟨rfl, f1⟩ := flat_rp hx h1
      obtain ⟨rfl, f2⟩ := flats_rps hv h2
      exact ⟨_, _, rfl, .inr (sqT_same hr.hi hs), f1, f2, h3 (fun z => by cases z) _ _ (At.addSh l hr (.bl _))⟩
  · exact h.elim
theorem db_in (hK : G.K = X.K) (ha : DE G X a wa) (hb : DE G X b wb) (hk : behindInMarks .In b = false := by rfl) : DB G X (.Compare a [.In] [b] pos) (wTest (wOp (roIn false) wa wb)) := db_cmp op_in_seq (hK ▸ od_in) roIn_mono ha hb hk
theorem db_notin (hK : G.K = X.K) (ha : DE G X a wa) (hb : DE G X b wb) (hk : behindInMarks .NotIn b = false := by rfl) : DB G X (.Compare a [.NotIn] [b] pos) (wTest (wOp (roIn true) wa wb)) := db_cmp op_notIn_seq (hK ▸ od_in) roIn_mono ha hb hk

/-! ### {}, constants of the module -/
def wDic0 : DT Sl := fun ρ Q _ => Q (.sh (.dic [] [])) ρ
theorem de_dnew : DE G X (.Dict [] [] pos) wDic0 := by
  refine ⟨fun _ _ _ _ _ hq _ h => hq _ _ h, pe_weak pe_dnewK fun σ H Q hw => ?_⟩
  obtain ⟨ρ, τ, ⟨l, B, hr⟩, hw⟩ := hw
  exact fun p hp => hw (fun z => by cases z) rfl _ _ (At.addNew l hr hp fun B' e1 e2 => .dic (ks := []) (vs := []) (by exact e2) rfl .nil)
theorem de_globI {x : Str} {i : Int} {t : Tok} (hm : X.mg x = some (.int i t)) (hg : Gl X x := by rfl) (hd : (x == ("__debug__" : Str)) = false := by decide) : DE G X (.Name x pos) (wC (.int i)) :=
  de_const (pe_glob (v := .int i) hg hm ⟨t, rfl⟩ hd) fun _ => .int i

end
end DL
set_option Elab.async false
set_option maxRecDepth 100000
set_option maxHeartbeats 4000000
set_option linter.unusedVariables false
/-! data-level layer, part j: calls by keywords, appends, unpacking -/
namespace DL
open PySem PySem.Spec PyProof.Rows L2 NdefX
section
variable {G : Gx} {X : Cx} {e a b : Expr} {we wa wb : DT Sl} {pos p : Pos} {f : Str}
/-! ### calls by keywords -/
def permL {α : Type} (js : List Nat) (l : List α) : List α := js.filterMap (l[·]?)
theorem permL_vals {vs : List V} {us : List Value} (r : Vals vs us) : ∀ js : List Nat, Vals (permL js vs) (permL js us)
  | [] => .nil
  | j :: js => by
    have ih := permL_vals r js
    unfold permL at ih ⊢
    rw [List.filterMap_cons, List.filterMap_cons]
    cases e : vs[j]? with
    | none =>
      have e2 : us[j]? = none := by rw [List.getElem?_eq_none_iff] at e ⊢; rw [← r.length]; exact e
      rw [e2]; exact ih
    | some x =>
      obtain ⟨u, e2, rx⟩ := r.get e
      rw [e2]; exact .cons rx ih
theorem permL_rps {K : PySem.W.Frag} {so : Option Addr} {B : Hp} {vs : List V} {ds : List D} (r : Rps K so B vs ds) : ∀ js : List Nat, Rps K so B (permL js vs) (permL js ds)
  | [] => .nil
  | j :: js => by
    have ih := permL_rps r js
    unfold permL at ih ⊢
    rw [List.filterMap_cons, List.filterMap_cons]
    cases e : ds[j]? with
    | none =>
      have e2 : vs[j]? = none := by rw [List.getElem?_eq_none_iff] at e ⊢; rw [r.len]; exact e
      rw [e2]; exact ih
    | some x =>
      obtain ⟨u, e2, rx⟩ := r.get e
      rw [e2]; exact .cons rx ih
/-- a def that is called with names: ks the names as written, js puts the values in the parameters' order -/
structure FDK (P : Program) (w : World) (K : PySem.W.Frag) (mg : Str → Option Value) (base : Heap) (k : Nat) (x : Str) (n : Nat) (ks : List Str) (js : List Nat) (W : DW1) : Prop where
  mono : MonoW W
  ex : ∃ (f : Addr) (fd : FuncData) (ps : List Str), ps.length = n ∧ mg x = some (.ref f) ∧ PySem.W.keepIn K (.ref f) = true ∧ FnOk P w K mg base (L2N.CX P w) k f fd ps (spD K n W) ∧
    ∀ (s : Shared) (ws : List Value), K.In s.heap → ws.length = ks.length → BindsTo s fd ⟨[], ks.zip ws⟩ (ps.zip (permL js ws))
/-- names' values -/
structure DKw (G : Gx) (X : Cx) (kws : List Keyword) (w : DT (List Sl)) : Prop where
  mono : Mono w
  pk : ∃ t, PK X kws t ∧ ∀ σ H Q, tDA G kws.length w σ H Q → t σ H Q
theorem dk_nil : DKw G X [] wNil := ⟨fun _ _ _ _ _ hq _ h => hq _ _ h, _, pk_nil, fun σ H Q h => by
  obtain ⟨ρ, τ, hA, hw⟩ := h
  refine hw (fun x hx => by cases hx) rfl rfl [] H rfl ?_
  show At G σ ρ (τ ++ []) H
  rw [List.append_nil]
  exact hA⟩
theorem dk_cons {kws : List Keyword} {nm : Option Str} {kp : Pos} {wr : DT (List Sl)} (ha : DE G X e wa) (hr : DKw G X kws wr) : DKw G X (⟨nm, e, kp⟩ :: kws) (wCons wa wr) := by
  obtain ⟨t, ht, hq⟩ := hr.pk
  refine ⟨wCons_mono ha.mono hr.mono, _, pk_cons ha.pe ht, fun σ H Q h => ?_⟩
  obtain ⟨ρ, τ, hA, hw⟩ := h
  refine ⟨ρ, τ, hA, ha.mono (fun x ρ1 k nx l v H1 A1 => ?_) (fun _ _ e => e) hw⟩
  refine hq σ H1 _ ⟨ρ1, _, A1, hr.mono (fun xs ρ2 k2 nxs ln l2 vs H2 lv A2 => ?_) xw_app k⟩
  refine k2 (fun y hy => ?_) (by rw [List.length_cons, List.length_cons, ln]) (l2.trans l) (v :: vs) H2 (by rw [List.length_cons, List.length_cons, lv]) ?_
  · rcases List.mem_cons.mp hy with rfl | hy
    · exact nx
    · exact nxs y hy
  · show At G σ ρ2 (τ ++ ((some v, x) :: temps vs xs)) H2
    rw [List.append_assoc] at A2
    exact A2
theorem de_callK {k n : Nat} {x : Str} {W : DW1} {kws : List Keyword} {ks : List Str} {js : List Nat} {wr : DT (List Sl)} (F : FDK X.prog X.w X.K X.mg X.base k x n ks js W) (hr : Room k X.A) (hK : G.K = X.K) (tk : L2N.Takes X fun cls d σ H => G.EX σ cls d H) (ha : DKw G X kws wr)
    (hjs : ∀ ds : List D, ds.length = kws.length → (permL js ds).length = n) (hg : Gl X x := by rfl) (hall : (backToKw pos (keywordEach kws X.env)).all (·.1.isSome) = true := by rfl) (hks : (backToKw pos (keywordEach kws X.env)).filterMap (·.1) = ks := by rfl)
    (hkl : ks.length = kws.length := by rfl) (hdb : (x == ("__debug__" : Str)) = false := by decide) (hpl : ((backTo pos (starEach [] X.env)).any (·.1) || (backToKw pos (keywordEach kws X.env)).any (·.1.isNone)) = false := by rfl) :
    DE G X (.Call (.Name x p) [] kws pos) (wCall (fun ds Q E => W (permL js ds) Q E) wr) := by
  obtain ⟨hW, f, fd, ps, hp, hm, hk, hF, hB⟩ := F
  obtain ⟨t, ht, hq⟩ := ha.pk
  refine ⟨wCall_mono (fun ds _ _ _ _ a b c => hW a b c) ha.mono, ⟨fun pins s σ H Q I h => wpAny_Call_Name_kw (ld_glob I hg hm ?_ hdb)⟩⟩
  obtain ⟨ρ, τ, hA, hw⟩ := h
  refine PySem.W.callWith_KW0 (h₀ := X.base) I.ok.mod.kin hk hall (thn (ht.run pos pins s σ H (fun vs H1 => spD G.K n W (permL js vs) H1 Q (G.EX σ) ∧ vs.length = kws.length) I (hq σ H _ ⟨ρ, τ, hA, ha.mono (fun xs ρ1 k nxs ln l vs H1 lv A1 => ?_) (fun _ _ e => e) hw⟩)) fun ws s2 ⟨zs, H2, I2, rz, q2, lz⟩ => ⟨I2.kIn, ?_⟩) hpl
  · obtain ⟨B, h1, h2⟩ := A1.stills lv nxs
    have ld : (datas xs).length = kws.length := by unfold datas; rw [List.length_map, ln]
    exact ⟨call_ends hW A1.len (hjs _ ld) h2 (permL_rps h1 js) (hW (fun z q nz => q nz l) (fun _ q => q) k), by rw [lv, ln]⟩
  · rw [hks]
    rw [hK] at q2
    refine wpAny_call (codeAny_mono (hF.run X.A X.stack s2 H2 ⟨[], ks.zip ws⟩ (permL js ws) (permL js zs) Q (G.EX σ) hr I2.env0 (hB s2 ws I2.kIn (by rw [hkl, ← lz, rz.length])) (permL_vals rz js) q2) fun r s' hq' => ?_)
    cases r with
    | error e => exact L2N.passAt tk σ pins H2 s2 e s' I2 hq'
    | ok fl => cases fl with
      | ret u => exact I2.after hq'
      | next => exact hq'.elim
      | brk => exact hq'.elim
      | cont => exact hq'.elim

/-! ### xs.append(e), xs a list of one's own -/
def wAppend (i : Nat) (we : DT Sl) : DS := fun D ρ E => match ρ[i]? with
  | some (.ow p _) => we ρ (fun x ρ1 => match ρ1[i]? with
    | some (.ow p' ds) => p' = p ∧ ds.length < sizeLine ∧ D.nx (ρ1.set i (.ow p (ds ++ [x.dat])))
    | _ => False) E
  | _ => False
theorem wAppend_mono {i : Nat} {we : DT Sl} (h : Mono we) : MonoS (wAppend i we) := fun ρ N N' E E' q hd he => by
  unfold wAppend at q ⊢
  split at q
  · refine h (fun x ρ1 k => ?_) he q
    split at k
    · exact ⟨k.1, k.2.1, hd.nx _ k.2.2⟩
    · exact k.elim
  · exact q.elim
theorem ds_append (i : Nat) {x : Str} {px apos spos : Pos} (hK : G.K = X.K) (he : DE G X e we) (hN : X.N[i]? = some x := by rfl) (hv : Vis X.env.scope x := by first | exact Or.inl rfl | exact Or.inr (Or.inl rfl) | exact Or.inr (Or.inr rfl)) (hd : (x == ("__debug__" : Str)) = false := by decide)
    (hcd : (x == ("__classdict__" : Str)) = false := by decide)
    (hst : starEach [e] X.env = (false, eval e X.env) :: starEach [] X.env := by rfl)
    (hbm : ∀ {t : TE} {to : TE} {ta : TA}, PE X (.Name x px) to → PA X [e] ta → PE X (.Call (.Attribute (.Name x px) "append" apos) [e] [] pos) (tBM X.K "list" rAppend to ta) := by
      exact fun ho ha => pe_bm PySem.F.plainAttrs_list PySem.F.slot_list_append PySem.F.type_list_append mt_append ho ha)
    (hs : swapsWith (.Call (.Attribute (.Name x px) "append" apos) [e] [] pos) none spos.line X.env = pure false := by rfl) :
    DSt G X (.Expr (.Call (.Attribute (.Name x px) "append" apos) [e] [] pos) spos) (wAppend i we) := by
  refine ⟨wAppend_mono he.mono, ps_weak (ps_expr (hbm (t := tVar i) (pe_var hN hv hd hcd) (pa_cons he.pe pa_nil hst)) hs) fun D σ H h => ?_⟩
  obtain ⟨ρ, τ, hA, hw⟩ := h
  unfold wAppend at hw
  split at hw
  · rename_i p ds e1
    obtain ⟨L, R, v, h1, h2, h3⟩ := zip_split hA.len e1
    obtain ⟨B, hr⟩ := hA.rel
    rw [h2] at hr
    have q := hr.rep (v, .ow p ds) (by simp)
    cases v with
    | none => exact q.elim
    | some v =>
      obtain ⟨rfl, vs, q1, q2⟩ : v = .ref p ∧ ∃ vs, H p = some (.lst vs) ∧ Rps G.K G.so B vs ds := q
      refine ⟨.ref p, h1, .inl ⟨rfl, _, .inl (.inl q1)⟩, ?_⟩
      show tD G we σ H _
      refine ⟨ρ, τ, hA, he.mono (fun x ρ1 k nx l v H1 A1 => ?_) (fun _ _ e => e) hw⟩
      split at k
      · rename_i p' ds' e2
        obtain ⟨rfl, k2, k3⟩ := k
        obtain ⟨B1, r1⟩ := A1.freezeLast nx
        obtain ⟨L1, R1, v1, g1, g2, g3⟩ := zip_split A1.len e2
        rw [g2] at r1
        have z := r1.rep (v1, .ow p' ds') (by simp)
        rw [h1] at g1
        cases g1
        obtain ⟨_, vs1, z1, z2⟩ : V.ref p' = .ref p' ∧ ∃ vs, H1 p' = some (.lst vs) ∧ Rps G.K G.so B1 vs ds' := z
        have zx : Rp G.K G.so B1 v x.dat := r1.rep (some v, .sh x.dat) (by simp)
        refine ⟨p', vs1, v, rfl, rfl, z1, by rw [z2.len]; exact k2, ?_⟩
        refine k3 (by rw [List.length_set]; exact l) σ _ ⟨by rw [List.length_set]; exact A1.len, B1, ?_⟩
        rw [g3]
        rw [List.append_assoc, List.cons_append] at r1
        have c := r1.change (es := ds' ++ [x.dat]) (z2.append (.cons zx .nil))
        rw [List.append_assoc, List.cons_append]
        refine c.sublist (List.Sublist.append (List.Sublist.refl _) (List.Sublist.cons_cons _ (List.Sublist.append (List.Sublist.refl _) (List.sublist_append_left _ _))))
      · exact k.elim
  · exact hw.elim

/-! ### a, b = e -/
theorem Rps.two {K : PySem.W.Frag} {so : Option Addr} {B : Hp} {vs : List V} {a b : D} (h : Rps K so B vs [a, b]) : ∃ va vb, vs = [va, vb] ∧ Rp K so B va a ∧ Rp K so B vb b := by
  cases h with
  | cons h1 r => cases r with
    | cons h2 r => cases r; exact ⟨_, _, rfl, h1, h2⟩
def wUnp2 (i j : Nat) (we : DT Sl) : DS := fun D ρ E => we ρ (fun x ρ1 => match x.dat with
  | .tup [a, b] => D.nx ((ρ1.set i (.sh a)).set j (.sh b))
  | _ => False) E
end
end DL
set_option Elab.async false
set_option maxRecDepth 100000
set_option maxHeartbeats 4000000
set_option linter.unusedVariables false
/-! data-level layer, part k: lists of one's own read and stored by place, the store of draws -/
namespace DL
open PySem PySem.Spec PyProof.Rows L2 NdefX
section
variable {G : Gx} {X : Cx} {e a b : Expr} {we wa wb : DT Sl} {pos p : Pos} {f : Str}
/-- the value of a name that holds a list of one's own -/
theorem At.own {σ : St} {ρ : DEnv} {τ : Roots} {H : Hp} (h : At G σ ρ τ H) {i : Nat} {q : Addr} {ds : List D} (e : ρ[i]? = some (.ow q ds)) : σ[i]? = some (some (.ref q)) ∧ ∃ B vs, Rel G (σ.zip ρ ++ τ) H B ∧ H q = some (.lst vs) ∧ Rps G.K G.so B vs ds := by
  obtain ⟨L, R, v, h1, h2, h3⟩ := zip_split h.len e
  obtain ⟨B, hr⟩ := h.rel
  have z := hr.rep (v, .ow q ds) (by rw [h2]; simp)
  cases v with
  | none => exact z.elim
  | some v =>
    obtain ⟨rfl, vs, z1, z2⟩ : v = .ref q ∧ ∃ vs, H q = some (.lst vs) ∧ Rps G.K G.so B vs ds := z
    exact ⟨h1, B, vs, hr, z1, z2⟩
/-- x[e], x a list of one's own -/
def wIxO (i : Nat) (wi : DT Sl) : DT Sl := fun ρ Q E => match ρ[i]? with
  | some (.ow _ _) => wi ρ (fun y ρ1 => match ρ1[i]?, y.dat with
    | some (.ow _ ds), .int k => ∃ z, atD ds k = some z ∧ Q (.sh z) ρ1
    | _, _ => False) E
  | _ => False
theorem wIxO_mono {i : Nat} {wi : DT Sl} (h : Mono wi) : Mono (wIxO i wi) := fun ρ _ _ _ _ hq he q => by
  unfold wIxO at q ⊢
  split at q
  · refine h (fun y ρ1 k => ?_) he q
    split at k
    · obtain ⟨z, k1, k2⟩ := k; exact ⟨z, k1, hq _ _ k2⟩
    · exact k.elim
  · exact q.elim
theorem de_ixO (i : Nat) {x : Str} {px : Pos} (hK : G.K = X.K) (hb : DE G X b wb) (hN : X.N[i]? = some x := by rfl) (hv : Vis X.env.scope x := by first | exact Or.inl rfl | exact Or.inr (Or.inl rfl) | exact Or.inr (Or.inr rfl)) (hd : (x == ("__debug__" : Str)) = false := by decide)
    (hcd : (x == ("__classdict__" : Str)) = false := by decide) (hs : PlainIx b := by exact fun _ _ => rfl) : DE G X (.Subscript (.Name x px) b pos) (wIxO i wb) := by
  refine ⟨wIxO_mono hb.mono, pe_weak (pe_ix ix_seq (pe_var hN hv hd hcd) hb.pe hs) fun σ H Q h => ?_⟩
  obtain ⟨ρ, τ, hA, hw⟩ := h
  unfold wIxO at hw
  split at hw
  · rename_i q ds e1
    obtain ⟨h1, _⟩ := hA.own e1
    refine ⟨.ref q, h1, ρ, τ, hA, hb.mono (fun y ρ1 k ny l v H1 A1 => ?_) (fun _ _ e => e) hw⟩
    split at k
    · rename_i q' es j e2 ej
      obtain ⟨z, k1, k2⟩ := k
      obtain ⟨g1, B, vs, r, z1, z2⟩ := A1.own e2
      rw [h1] at g1
      cases g1
      obtain ⟨B2, r2, r3⟩ := A1.still ny
      rw [ej] at r2
      cases r2
      obtain ⟨u, e3, e4⟩ := atI_rps z2 k1
      refine .inl ⟨q, vs, j, u, rfl, rfl, .inl (.inl z1), e3, k2 (fun z => by cases z) l u H1 (At.addSh A1.len ?_ e4)⟩
      exact r.sublist (by rw [← List.append_assoc]; exact List.sublist_append_left _ _)
    · exact k.elim
  · exact hw.elim
/-- len(x), x a list of one's own -/
def wLenO (i : Nat) : DT Sl := fun ρ Q _ => match ρ[i]? with
  | some (.ow _ ds) => Q (.sh (.int ds.length)) ρ
  | _ => False
theorem de_lenO (i : Nat) {x : Str} {px : Pos} (hK : G.K = X.K) (hm : X.mg "len" = none) (hN : X.N[i]? = some x := by rfl) (hv : Vis X.env.scope x := by first | exact Or.inl rfl | exact Or.inr (Or.inl rfl) | exact Or.inr (Or.inr rfl)) (hd : (x == ("__debug__" : Str)) = false := by decide)
    (hcd : (x == ("__classdict__" : Str)) = false := by decide) (hg : Gl X "len" := by rfl) (he : starEach [.Name x px] X.env = (false, eval (.Name x px) X.env) :: starEach [] X.env := by rfl) : DE G X (.Call (.Name "len" p) [.Name x px] [] pos) (wLenO i) := by
  refine ⟨fun ρ _ _ _ _ hq he h => ?_, pe_weak (pe_callB call_len hg hm (by decide +kernel) (pa_cons (pe_var (i := i) hN hv hd hcd) pa_nil he) (by decide) (by decide) he rfl) fun σ H Q h => ?_⟩
  · unfold wLenO at h ⊢
    split at h
    · exact hq _ _ h
    · exact h.elim
  · obtain ⟨ρ, τ, hA, hw⟩ := h
    unfold wLenO at hw
    split at hw
    · rename_i q ds e1
      obtain ⟨h1, B, vs, r, z1, z2⟩ := hA.own e1
      exact ⟨.ref q, h1, .ref q, vs.length, rfl, .inl ⟨vs, .inl (.inl z1), rfl⟩, by rw [z2.len]; exact hw (fun z => by cases z) rfl _ H (At.addSh hA.len r (.int _))⟩
    · exact hw.elim
/-- x[k] = e, x a list of one's own -/
def wSetIx (i : Nat) (we wi : DT Sl) : DS := fun D ρ E => we ρ (fun x ρ1 => match ρ1[i]? with
  | some (.ow _ _) => wi ρ1 (fun y ρ2 => match ρ2[i]?, y.dat with
    | some (.ow q ds), .int k => ∃ j, ixN ds.length k = some j ∧ D.nx (ρ2.set i (.ow q (ds.set j x.dat)))
    | _, _ => False) E
  | _ => False) E
theorem wSetIx_mono {i : Nat} {we wi : DT Sl} (h1 : Mono we) (h2 : Mono wi) : MonoS (wSetIx i we wi) := fun ρ N N' E E' q hd he => h1 (fun x ρ1 k => by
  split at k
  · refine h2 (fun y ρ2 k2 => ?_) he k
    split at k2
    · obtain ⟨j, a, b⟩ := k2; exact ⟨j, a, hd.nx _ b⟩
    · exact k2.elim
  · exact k.elim) he q
theorem ds_setix (i : Nat) {x : Str} {px ps spos : Pos} (hK : G.K = X.K) (he : DE G X e we) (hi : DE G X b wb) (hN : X.N[i]? = some x := by rfl) (hv : Vis X.env.scope x := by first | exact Or.inl rfl | exact Or.inr (Or.inl rfl) | exact Or.inr (Or.inr rfl)) (hd : (x == ("__debug__" : Str)) = false := by decide)
    (hcd : (x == ("__classdict__" : Str)) = false := by decide)
    (hpg : ∀ {to ti : TE}, PE X (.Name x px) to → PE X b ti → PG X (.Subscript (.Name x px) b ps) (gSub to ti rSetL) := by exact fun h1 h2 => pg_sub h1 h2 set_list)
    (hasg : ∀ {t : TE} {g : TG}, PE X e t → PG X (.Subscript (.Name x px) b ps) g → PS X (.Assign [.Subscript (.Name x px) b ps] e spos) (tAsg t g) := by exact fun h1 h2 => ps_asg h1 h2) :
    DSt G X (.Assign [.Subscript (.Name x px) b ps] e spos) (wSetIx i we wb) := by
  refine ⟨wSetIx_mono he.mono hi.mono, ps_weak (hasg he.pe (hpg (pe_var hN hv hd hcd) hi.pe)) fun D σ H h => ?_⟩
  obtain ⟨ρ, τ, hA, hw⟩ := h
  refine ⟨ρ, τ, hA, he.mono (fun x ρ1 k nx l v H1 A1 => ?_) (fun _ _ e => e) hw⟩
  split at k
  · rename_i q ds e1
    obtain ⟨h1, _⟩ := A1.own e1
    refine ⟨.ref q, h1, ρ1, _, A1, hi.mono (fun y ρ2 k2 ny l2 u H2 A2 => ?_) xw_app k⟩
    split at k2
    · rename_i q' es j e2 ej
      obtain ⟨n, k3, k4⟩ := k2
      obtain ⟨B1, r1⟩ := A2.freezeLast ny
      have A3 : At G σ ρ2 (τ ++ [(some v, x)]) H2 := A2.drop
      -- both temporaries told still
      have A4 : At G σ ρ2 (τ ++ [(some v, x)] ++ [(some u, .sh y.dat)]) H2 := ⟨A2.len, B1, r1⟩
      obtain ⟨B4, r4⟩ := A4.rel
      rw [List.append_assoc, ← List.append_assoc] at r4
      have fz := Rel.freeze (R₁ := σ.zip ρ2 ++ τ) (R₂ := [(some u, .sh y.dat)]) nx r4
      have rx : Rp G.K G.so _ v x.dat := fz.rep (some v, .sh x.dat) (by simp)
      have ry : Rp G.K G.so _ u y.dat := fz.rep (some u, .sh y.dat) (by simp)
      rw [ej] at ry
      cases ry
      have r5 := fz.sublist (List.sublist_append_left (σ.zip ρ2 ++ τ) _)
      obtain ⟨L, R, w1, g1, g2, g3⟩ := zip_split A2.len e2
      rw [h1] at g1
      cases g1
      rw [g2, List.append_assoc, List.cons_append] at r5
      obtain ⟨eq, vs1, z1, z2⟩ : V.ref q = .ref q' ∧ ∃ vs, H2 q' = some (.lst vs) ∧ Rps G.K G.so _ vs es := r5.rep (some (.ref q), .ow q' es) (by simp)
      cases eq
      have fin := r5.change (z2.set rx n)
      rw [← List.cons_append, ← List.append_assoc, ← g3] at fin
      exact ⟨q, vs1, j, n, rfl, rfl, z1, by rw [z2.len]; exact k3, k4 (by rw [List.length_set]; exact l2.trans l) σ _ ⟨by rw [List.length_set]; exact A2.len, _, fin⟩⟩
    · exact k2.elim
  · exact k.elim
def wNever : DS := fun _ _ _ => False
end

/-! ### the store of draws -/
section
variable {K : PySem.W.Frag} {B : Hp}
mutual
theorem Rp.so {s : Addr} : ∀ {v : V} {d : D}, Rp K none B v d → Rp K (some s) B v d
  | _, _, .non => .non
  | _, _, .bl b => .bl b
  | _, _, .int i => .int i
  | _, _, .str x => .str x
  | _, _, .lst h r => .lst h (Rps.so r)
  | _, _, .tup h r => .tup h (Rps.so r)
  | _, _, .dic h l r => .dic h l (Rps.so r)
  | _, _, .ins h l r => .ins h l (Rps.so r)
  | _, _, .exn z q => .exn z q
  | _, _, .exa z q x r => .exa z q x (Rp.so r)
  | _, _, .scr h => .scr h
theorem Rps.so {s : Addr} : ∀ {vs : List V} {ds : List D}, Rps K none B vs ds → Rps K (some s) B vs ds
  | _, _, .nil => .nil
  | _, _, .cons h r => .cons (Rp.so h) (Rps.so r)
end
mutual
theorem Dpr.so {s : Addr} {H : Hp} : ∀ {v : V} {d : D} {F : List Addr}, Dpr K none B H v d F → Dpr K (some s) B H v d F
  | _, _, _, .leaf h n => .leaf h.so n
  | _, _, _, .lst h r => .lst h (Dprs.so r)
  | _, _, _, .tup h r => .tup h (Dprs.so r)
theorem Dprs.so {s : Addr} {H : Hp} : ∀ {vs : List V} {ds : List D} {F : List Addr}, Dprs K none B H vs ds F → Dprs K (some s) B H vs ds F
  | _, _, _, .nil => .nil
  | _, _, _, .cons h r => .cons (Dpr.so h) (Dprs.so r)
end
theorem RepS.so {s : Addr} {H : Hp} {v : Option V} {x : Sl} (h : RepS K none B H v x) : RepS K (some s) B H v x := by
  cases x with
  | un => cases v <;> trivial
  | sh d => cases v with
    | none => exact h.elim
    | some v => exact Rp.so (show Rp K none B v d from h)
  | ow q ds => cases v with
    | none => exact h.elim
    | some v => obtain ⟨h1, vs, h2, h3⟩ := h; exact ⟨h1, vs, h2, h3.so⟩
  | dp F d => cases v with
    | none => exact h.elim
    | some v => exact Dpr.so (show Dpr K none B H v d F from h)
end
/-- the store's content -/
def stoD (ns : List Int) (i h m c : Int) : List D := [.scr ns, .int i, .int h, .int m, .int c]
/-- what a body that works on the store is to reach -/
def bodyEndsS (s : Addr) (ns : List Int) (Q : Sl → Prop) : DEn where
  nx := fun ρ => (∃ y, Cv (.sh .non) y ∧ Q y) ∧ ∃ i h m c, ρ[0]? = some (.ow s (stoD ns i h m c)) ∧ 0 ≤ i ∧ 0 ≤ h
  rt := fun x ρ => (∃ y, Cv x y ∧ Q y) ∧ ∃ i h m c, ρ[0]? = some (.ow s (stoD ns i h m c)) ∧ 0 ≤ i ∧ 0 ≤ h
section
variable {P : Program} {w : World} {K : PySem.W.Frag} {mg : Str → Option Value} {base : Heap} {x qual : Str} {params : Arguments} {body : List Stmt} {scope : Scope} {f : Addr} {fd : FuncData}
/-- behind the body: the store is told as a whole again -/
theorem sto_back {so : Addr} {B H : Hp} {E : L2.St → XK} {σ' : St} {ρ' : DEnv} {v : V} {z : Sl} {H' : Hp} {ns : List Int} {i h m c : Int} (A : At ⟨K, none, B, fun a => if a = so then none else H a, E⟩ σ' ρ' [(some v, z)] H') (e : ρ'[0]? = some (.ow so (stoD ns i h m c))) (hi : 0 ≤ i) (hh : 0 ≤ h) :
    RelE ⟨K, some so, B, H, E⟩ [(some v, z)] H' := by
  obtain ⟨L, R, u, g1, g2, g3⟩ := zip_split A.len e
  obtain ⟨B', r⟩ := A.rel
  rw [g2] at r
  have hs := r.rep (u, .ow so (stoD ns i h m c)) (by simp)
  have hnd := r.nd
  rw [List.append_assoc, List.cons_append, feet_split] at hnd
  have mz : (some v, z) ∈ L ++ (u, Sl.ow so (stoD ns i h m c)) :: R ++ [(some v, z)] := by simp
  have ms : so ∈ feet (L ++ (u, Sl.ow so (stoD ns i h m c)) :: R ++ [(some v, z)]) := mem_feet (r := (u, Sl.ow so (stoD ns i h m c))) (by simp) (by simp [Sl.foot])
  have nz : ∀ q ∈ z.foot, q ≠ so := fun q hq eq => by
    obtain ⟨_, h2, _⟩ := List.nodup_append.mp hnd
    obtain ⟨_, _, h3⟩ := List.nodup_append.mp h2
    refine h3 so (by simp [Sl.foot]) q ?_ eq.symm
    rw [feet_append, feet_one]
    exact List.mem_append_right _ hq
  refine ⟨B', r.lo, r.hi, fun a o ea na => r.fr a o (by show (if a = so then none else H a) = some o; rw [if_neg (fun z => na (by rw [z]))]; exact ea) (fun z => by cases z), fun a xs ea na => ?_, fun q hq => ?_, ?_, fun q hq => ?_, fun s es => ?_⟩
  · by_cases has : a = so
    · rw [has, (r.ap so ms).1] at ea; cases ea
    · exact r.nw a xs ea (by show (if a = so then none else H a) ≠ none; rw [if_neg has]; exact na)
  · have eq : q = (some v, z) := by simpa using hq
    subst eq
    exact (r.rep _ mz).so
  · rw [feet_one]
    have := r.nd
    rw [feet_append, feet_one] at this
    exact (List.nodup_append.mp this).2.1
  · rw [feet_one] at hq
    obtain ⟨a1, a2, a3⟩ := r.ap q (mem_feet mz hq)
    refine ⟨a1, ?_, fun eq => nz q hq (Option.some.inj eq).symm⟩
    have a2' : (if q = so then none else H q) = none := a2
    rw [if_neg (nz q hq)] at a2'
    exact a2'
  · cases es
    refine ⟨(r.ap so ms).1, ?_⟩
    cases u with
    | none => exact hs.elim
    | some u =>
      obtain ⟨rfl, vs, z1, z2⟩ : u = .ref so ∧ ∃ vs, H' so = some (.lst vs) ∧ Rps K none B' vs (stoD ns i h m c) := hs
      cases z2 with
      | cons y1 z2 => cases y1 with
        | @scr l _ hl => cases z2 with
          | cons y2 z2 => cases y2; cases z2 with
            | cons y3 z2 => cases y3; cases z2 with
              | cons y4 z2 => cases y4; cases z2 with
                | cons y5 z2 => cases y5; cases z2; exact ⟨l, ns, i, h, m, c, z1, hl, hi, hh⟩
/-- a def of the store and one int -/
theorem fd_sto {N ps : List Str} {k : Nat} {W : DW1} (hW : MonoW W) (F : FunD K x qual params body scope [] [] f fd) (S : FnScope N ps scope) (hm : mg x = some (.ref f)) (hps : ps.length = 2) (hN : 2 ≤ N.length)
    (hWs : ∀ ds Q E, W ds Q E → ∃ j, ds = [.sto, .int j])
    (hbd : ∀ (kV doc pm : Value) (an : Option Addr) (cdv ct : Value) (us : List Value), us.length = ps.length → bindArgs (PySem.W.fnOf x qual params body scope .none kV doc pm an cdv ct) ⟨us, []⟩ = pure (ps.zip us))
    (hb : ∀ (cdv : Value) (A : Around) (outer : List Env) (s : Shared) (H : Hp) (E : XK) (G : Gx), G.K = K → G.EX = (fun _ => E) → Room k (A.deeper (envOfC qual scope s.heap.objs.size f cdv)) →
      L2N.Takes (cxD P w K mg base N qual scope f cdv A outer s H E) (fun cls d _ H => E cls d H) →
      ∃ wb, DSs G (cxD P w K mg base N qual scope f cdv A outer s H E) body wb ∧ ∀ (j : Int) Q E' so ns i h m c, W [.sto, .int j] Q E' → 0 ≤ i → 0 ≤ h → wb (bodyEndsS so ns Q) (.ow so (stoD ns i h m c) :: .sh (.int j) :: List.replicate (N.length - 2) .un) noE) :
    FD P w K mg base (k + 1) x ps.length W := by
  refine ⟨hW, f, fd, ps, rfl, hm, F.kp, ?_, F.bindsN hbd⟩
  refine F.ok S (fun vs H Q E h => ?_) (fun cdv A outer s H vs Q E hr h => ?_)
  · obtain ⟨so, B, ds, ln, _, _, hv, _⟩ := h
    exact hv.len.trans ln
  · obtain ⟨so, B, ds, ln, e, st, hv, hw⟩ := h
    obtain ⟨j, rfl⟩ := hWs _ _ _ hw
    obtain ⟨va, vb, rfl, q1, q2⟩ := hv.two
    cases q2
    cases q1 with
    | @sto s0 hso =>
      subst hso
      obtain ⟨s1, l, ns, i, hh, m, c, s2, s3, s4, s5⟩ := st s0 rfl
      obtain ⟨wb, d, hwb⟩ := hb cdv A outer s H E ⟨K, none, B, fun a => if a = s0 then none else H a, fun _ => E⟩ rfl rfl hr (L2N.takes_of rfl rfl rfl rfl)
      have hq := hwb j _ _ s0 ns i hh m c hw s4 s5
      refine ⟨_, d.ps, .ow s0 (stoD ns i hh m c) :: .sh (.int j) :: List.replicate (N.length - 2) .un, [], ⟨?_, B, ?_⟩, d.mono hq ⟨fun ρ' ⟨⟨y, cv, q⟩, i', h', m', c', e1, e2, e3⟩ l σ' H' A' => ?_, fun z ρ' ⟨⟨y, cv, q⟩, i', h', m', c', e1, e2, e3⟩ nz l v σ' H' A' => ?_, fun _ z => z.elim, fun _ z => z.elim⟩ (fun _ _ z => z.elim)⟩
      · unfold L2.start
        simp only [List.length_cons, List.length_append, List.length_map, List.length_replicate, List.length_nil]
        omega
      · rw [List.append_nil]
        unfold L2.start
        show Rel _ ((some (V.ref s0), Sl.ow s0 (stoD ns i hh m c)) :: (some (V.int j), Sl.sh (.int j)) :: (List.replicate (N.length - 2) (none : Option V)).zip (List.replicate (N.length - 2) Sl.un)) H B
        have f2 : ∀ n m, ∀ r ∈ (List.replicate n (none : Option V)).zip (List.replicate m Sl.un), r = (none, Sl.un) := by
          intro n m r hr
          obtain ⟨a1, a2⟩ := List.of_mem_zip hr
          obtain ⟨x1, x2⟩ := r
          rw [show x1 = none from (List.mem_replicate.mp a1).2, show x2 = Sl.un from (List.mem_replicate.mp a2).2]
        have f3 : ∀ l : Roots, (∀ r ∈ l, r = (none, Sl.un)) → feet l = [] := by
          intro l
          induction l with
          | nil => intro _; rfl
          | cons r l ih => intro h; rw [feet_cons, h r List.mem_cons_self, ih fun q hq => h q (List.mem_cons_of_mem _ hq)]; rfl
        have f4 := f3 _ (f2 (N.length - 2) (N.length - 2))
        refine ⟨Same.refl _, e, fun a o ea _ => ?_, fun a xs q _ => by show B a ≠ none; rw [q]; exact Option.some_ne_none _, fun r hr => ?_, ?_, fun q hq => ?_, fun s es => by cases es⟩
        · have ea' : (if a = s0 then none else H a) = some o := ea
          split at ea'
          · cases ea'
          · exact ea'
        · rcases List.mem_cons.mp hr with rfl | hr
          · exact ⟨rfl, _, s2, .cons (.scr s3) (.cons (.int _) (.cons (.int _) (.cons (.int _) (.cons (.int _) .nil))))⟩
          · rcases List.mem_cons.mp hr with rfl | hr
            · exact .int j
            · rw [f2 _ _ r hr]; trivial
        · rw [feet_cons, feet_cons, f4]; simp [Sl.foot]
        · rw [feet_cons, feet_cons, f4] at hq
          have eq : q = s0 := by simpa [Sl.foot] using hq
          subst eq
          exact ⟨s1, if_pos rfl, fun z => by cases z⟩
      · have A2 : At ⟨K, none, B, fun a => if a = s0 then none else H a, fun _ => E⟩ σ' ρ' [(some .non, .sh .non)] H' := by
          obtain ⟨B', r'⟩ := A'.rel
          exact At.addSh (τ := []) A'.len r' .non
        exact q (cv.ne (fun z => by cases z)) .non H' (cv.rel (R := []) (sto_back A2 e1 e2 e3))
      · exact q (cv.ne nz) v H' (cv.rel (R := []) (sto_back A' e1 e2 e3))
theorem feet_none : ∀ {R : Roots}, (∀ r ∈ R, r.2.foot = []) → feet R = []
  | [], _ => rfl
  | r :: R, h => by rw [feet_cons, h r List.mem_cons_self, feet_none fun q hq => h q (List.mem_cons_of_mem _ hq)]; rfl
/-- the law: its first statement makes the store -/
theorem law_ok {N : List Str} {k : Nat} {st : Stmt} {rest : List Stmt} {we : DT Sl} {u : DS} (F : FunD K x qual params (st :: rest) scope [] [] f fd) (S : FnScope N ["_law_script"] scope) (sp : Sp) (hsp : ∀ vs H Q E, sp vs H Q E → ∃ (p : Addr) (ns : List Int), vs = [.ref p] ∧ SqL K H p (ns.map V.int) ∧ ∀ H', Q (.bl true) H')
    (hrest : ∀ (cdv : Value) (A : Around) (outer : List Env) (s : Shared) (H : Hp) (E : XK), Room k (A.deeper (envOfC qual scope s.heap.objs.size f cdv)) →
      L2N.Takes (cxD P w K mg base N qual scope f cdv A outer s H E) (fun cls d _ H => E cls d H) → ∀ G : Gx, G.K = K → G.EX = (fun _ => E) →
      DSt G (cxD P w K mg base N qual scope f cdv A outer s H E) st (wSet 1 we) ∧ DSs G (cxD P w K mg base N qual scope f cdv A outer s H E) rest u) (hmw : Mono we)
    (h1 : ∀ ns, we (entry N.length [.scr ns]) (fun z ρ1 => ρ1 = entry N.length [.scr ns] ∧ ∃ q m, z = .ow q [.lst (ns.map .int), .int 0, .int 0, .int m, .int 0]) noE)
    (h2 : ∀ ns, u ⟨fun _ => False, fun z _ => z = .sh (.bl true), fun _ => False, fun _ => False⟩ ((entry N.length [.scr ns]).set 1 (.sh .sto)) noE) (hN : 2 ≤ N.length) :
    FnOk P w K mg base (L2N.CX P w) (k + 1) f fd ["_law_script"] sp := by
  refine F.ok S (fun vs H Q E h => ?_) (fun cdv A outer s H vs Q E hr h => ?_)
  · obtain ⟨p, ns, rfl, _⟩ := hsp _ _ _ _ h; rfl
  · obtain ⟨p, ns, rfl, hs, hQ⟩ := hsp _ _ _ _ h
    have key := hrest cdv A outer s H E hr (L2N.takes_of rfl rfl rfl rfl)
    have el : (entry N.length [D.scr ns]).length = N.length := by
      unfold entry
      simp only [List.length_append, List.length_map, List.length_replicate, List.length_cons, List.length_nil]
      omega
    have es : ∀ y ∈ entry N.length [D.scr ns], y = .sh (.scr ns) ∨ y = .un := fun y hy => by
      unfold entry at hy
      rcases List.mem_append.mp hy with hy | hy
      · exact .inl (by simpa using hy)
      · exact .inr (List.mem_replicate.mp hy).2
    refine ⟨_, pss_cons (key ⟨K, none, H, H, fun _ => E⟩ rfl rfl).1.ps (⟨fun pins s1 σ1 H1 D I ⟨G, g1, g2, h⟩ => (key G g1 g2).2.ps.run pins s1 σ1 H1 D I h⟩ : PSs _ rest fun D σ1 H1 => ∃ G : Gx, G.K = K ∧ G.EX = (fun _ => E) ∧ tS G u D σ1 H1), ?_⟩
    refine ⟨entry N.length [.scr ns], [], ⟨start_entry rfl, H, ?_⟩, hmw (fun z ρ1 k => ?_) (fun _ _ z => z.elim) (h1 ns)⟩
    · rw [List.append_nil]
      refine Rel.entry (Same.refl _) (fun r hr => ?_) (feet_none fun r hr => ?_) (fun s es => by cases es)
      · obtain ⟨r1, r2⟩ := r
        have e0 : L2.start N [V.ref p] = some (.ref p) :: List.replicate (N.length - 1) none := rfl
        have e1 : entry N.length [D.scr ns] = .sh (.scr ns) :: List.replicate (N.length - 1) .un := rfl
        rw [e0, e1, List.zip_cons_cons] at hr
        rcases List.mem_cons.mp hr with eq | hr
        · cases eq; exact .scr hs
        · have e2 : r2 = .un := (List.mem_replicate.mp (List.of_mem_zip hr).2).2
          rw [e2]; cases r1 <;> trivial
      · obtain ⟨r1, r2⟩ := r
        rcases es r2 (List.of_mem_zip hr).2 with e | e <;> rw [e] <;> rfl
    · obtain ⟨rfl, q, m, rfl⟩ := k
      refine fun l σ1 H1 A1 => ?_
      obtain ⟨L, R, v, g1, g2, g3⟩ := zip_split (i := 1) A1.len (List.getElem?_set_self (by rw [el]; omega))
      obtain ⟨B1, r1⟩ := A1.rel
      rw [List.append_nil, g2] at r1
      have z := r1.rep (v, _) (List.mem_append_right _ List.mem_cons_self)
      have ha := r1.ap q (mem_feet (r := (v, _)) (List.mem_append_right _ List.mem_cons_self) (by simp [Sl.foot]))
      cases v with
      | none => exact z.elim
      | some v =>
        obtain ⟨rfl, vs, z1, z2⟩ : v = .ref q ∧ ∃ vs, H1 q = some (.lst vs) ∧ Rps K none B1 vs [.lst (ns.map .int), .int 0, .int 0, .int m, .int 0] := z
        have g4 := g3 (.sh .sto)
        rw [List.set_set] at g4
        refine ⟨⟨K, some q, B1, H1, fun _ => E⟩, rfl, rfl, (entry N.length [.scr ns]).set 1 (.sh .sto), [], ⟨by rw [List.length_set]; have := A1.len; rw [List.length_set] at this; exact this, B1, ?_⟩, (key ⟨K, some q, B1, H1, fun _ => E⟩ rfl rfl).2.mono (h2 ns) ⟨fun _ z => z.elim, fun x ρ2 k nx l v σ2 H2 A2 => ?_, fun _ z => z.elim, fun _ z => z.elim⟩ (fun _ _ z => z.elim)⟩
        · rw [List.append_nil]
          refine Rel.entry r1.hi (fun r hr => ?_) (feet_none fun r hr => ?_) (fun s es => ?_)
          · rw [g4] at hr
            rcases List.mem_append.mp hr with hr | hr
            · exact (r1.rep r (List.mem_append_left _ hr)).so
            · rcases List.mem_cons.mp hr with rfl | hr
              · exact .sto rfl
              · exact (r1.rep r (List.mem_append_right _ (List.mem_cons_of_mem _ hr))).so
          · obtain ⟨q1, q2⟩ := r
            rcases List.mem_or_eq_of_mem_set (List.of_mem_zip hr).2 with e | e
            · rcases es q2 e with e | e <;> rw [e] <;> rfl
            · rw [e]; rfl
          · cases es
            refine ⟨ha.1, ?_⟩
            cases z2 with
            | cons y1 z2 => cases y1 with
              | @lst pl ws _ hl hw => cases z2 with
                | cons y2 z2 => cases y2; cases z2 with
                  | cons y3 z2 => cases y3; cases z2 with
                    | cons y4 z2 => cases y4; cases z2 with
                      | cons y5 z2 => cases y5; cases z2; exact ⟨pl, ns, 0, 0, m, 0, z1, .inl (.inl (by rw [hw.ints_of] at hl; exact hl)), by omega, by omega⟩
        · have k' : x = .sh (.bl true) := k
          subst k'
          obtain ⟨B2, r2⟩ := A2.rel
          have rv : Rp K (some q) B2 v (.bl true) := r2.rep (some v, .sh (.bl true)) (by simp)
          cases rv
          exact hQ H2
end
end DL
set_option Elab.async false
set_option maxRecDepth 100000
set_option maxHeartbeats 4000000
set_option linter.unusedVariables false
/-! list(reversed(xs)) over the layer -/
namespace DL
open PySem PySem.Spec PyProof.Rows L2 NdefX
section
variable {prog : Program} {w : World} {A : Around} {s : Shared} {R : Result → Shared → Prop}
end
section
variable {X : Cx}
end
/-- list(reversed(xs)) -/
def wListRev (w : DT Sl) : DT Sl := fun ρ Q E => w ρ (fun x ρ1 => match x.dat with
  | .lst ds => ∀ p, Q (.ow p ds.reverse) ρ1
  | _ => False) E
section
variable {G : Gx} {X : Cx} {e : Expr} {we : DT Sl} {p p2 pos pos2 : Pos}
end
end DL
set_option Elab.async false
set_option maxRecDepth 100000
set_option maxHeartbeats 4000000
set_option linter.unusedVariables false
/-! what the program's top leaves, as one check and a list of defs -/
namespace DL
open PySem PySem.Spec PyProof.Rows L2 NdefX He

/-! ### the classes of errors -/
def oexB (K : PySem.W.Frag) (C : Addr) : Bool := match K.lookup C with
  | some ⟨.type "type", _, .cls cd, sl⟩ => (match cd.mro, sl.toList with
    | .ref C' :: bm, [_, _, _, _, some (.builtin n), _] => C' == C && (n == "ValueError.__new__" && (!cd.hasDel && (cd.hasDict && PySem.HandSPX.refsVE bm)))
    | _, _ => false)
  | _ => false
theorem oexB_ok {K : PySem.W.Frag} {C : Addr} (h : oexB K C = true) : ∃ nm q N bs bm sn sub ab col dd k0 k1 k2 k3 k5, K.lookup C = some (excClassObj nm q C N bs bm true sn sub ab col dd k0 k1 k2 k3 k5 "ValueError.__new__") ∧ PySem.HandSPX.refsVE bm = true := by
  unfold oexB at h
  split at h
  · rename_i dd cd sl e0
    split at h
    · rename_i c1 bm k0 k1 k2 k3 n k5 e1 e2
      simp only [Bool.and_eq_true, beq_iff_eq, Bool.not_eq_true'] at h
      obtain ⟨rfl, rfl, h3, h4, h5⟩ := h
      obtain ⟨nm, bs, mro, ns, qn, hdc, sn, sub, ab, col, del⟩ := cd
      dsimp only at e1 h3 h4
      subst e1 h3 h4
      have e3 : sl = #[k0, k1, k2, k3, some (.builtin "ValueError.__new__"), k5] := by
        obtain ⟨l⟩ := sl
        simp only at e2
        rw [e2]
      subst e3
      exact ⟨nm, qn, ns, bs, bm, sn, sub, ab, col, dd, k0, k1, k2, k3, k5, e0, h5⟩
    · cases h
  · cases h
def eqOV (a b : Option Value) : Bool := decide (a = b)
theorem eqOV_ok {a b : Option Value} (h : eqOV a b = true) : a = b := of_decide_eq_true h
/-- any own class of errors -/
def errB (K : PySem.W.Frag) (c : Str) : Bool :=
  (Fa.glo c).ok K && (PySem.W.keepIn K (.ref (ga K c)) && (exkB K (ga K c) && eqOB (PySem.W.exmOne K (.ref (ga K c)) (.ref (ga K "ShadeError")))))
where eqOB (o : Option Bool) : Bool := decide (o = some true)
theorem errB_ok {K : PySem.W.Frag} {c : Str} (h : errB K c = true) : (Fa.glo c).ok K = true ∧ PySem.W.keepIn K (.ref (ga K c)) = true ∧ ExK K (ga K c) ∧ PySem.W.exmOne K (.ref (ga K c)) (.ref (ga K "ShadeError")) = some true := by
  unfold errB at h
  simp only [Bool.and_eq_true] at h
  exact ⟨h.1, h.2.1, exk_of h.2.2.1, of_decide_eq_true h.2.2.2⟩
/-- the function object of an __init__ that closes over its class -/
def iniF (K : PySem.W.Frag) (file : Str) (C : Addr) : Option Obj → Bool
  | some ⟨_, _, .func fd, _⟩ => decide (fd.defaults = .none) && (decide (fd.kwdefaults = .none) && (decide (fd.annotations = none) && ((match fd.code with
      | .ref cc => PySem.W.codeIn K (.ref cc) fd.qualname && (match K.lookup cc with
        | some ⟨_, _, .fields vs, _⟩ => (match (vs[2]? : Option Value) with | some (Value.str f _) => decide (f = file) | _ => false)
        | _ => false)
      | _ => false) && (match fd.closure with
      | [(_, cl)] => (match K.lookup cl with
        | some ⟨_, _, .cell (some (.ref D)), _⟩ => decide (D = C)
        | _ => false)
      | _ => false))))
  | _ => false
def iniB (K : PySem.W.Frag) (file : Str) (c : Str) : Bool :=
  errB K c && (oexB K (ga K c) && (eqO (PySem.W.findIn K (.ref (ga K c)) "__setattr__") (some (some (.builtin "object.__setattr__"))) && (decide (PySem.W.subIn K (.ref (ga K c)) (.type "BaseException") = some true) && (eqOV (PySem.W.typeIn K (.ref (ga K c))) (some (.type "type")) &&
  (eqO (PySem.W.findIn K (.ref (ga K c)) "__init__") (some (some (.ref (ma K (ga K c) "__init__")))) && (eqOV (PySem.W.typeIn K (.ref (ma K (ga K c) "__init__"))) (some (.type "function")) && (iniF K file (ga K c) (K.lookup (ma K (ga K c) "__init__")) &&
  (decide (PySem.W.mroIn K (ga K c) (.ref (ga K c)) = some true) && (eqO (PySem.W.ks_superIn K (ga K c) (ga K c) "__init__") (some (some (.builtin "ValueError.__init__"))) && (decide (PySem.W.subIn K (.ref (ga K c)) (.type "ValueError") = some true) &&
  (eqO (PySem.W.findIn K (.ref (ga K c)) (fieldOf c)) (some none) && xfB K (ga K c))))))))))))

/-! ### defs, told with the names they close over -/
abbrev FnV : Type := Option (Str × Str × Arguments × FuncBody × Scope × Addr × List Str × Addr)
def fnV (K : PySem.W.Frag) (p : Str × Option Str) : FnV := match K.lookup (fAd K p) with
  | some ⟨_, _, .func fd, _⟩ => some (fd.name, fd.qualname, fd.params, fd.body, fd.scope, fd.globals, fd.closure.map (·.1), fd.builtins)
  | _ => none
structure DefV where
  d : DefD
  free : List Str := []
def DefV.val (v : DefV) : FnV := some (v.d.name, v.d.qual, v.d.params, .stmts v.d.body, v.d.scope, mainGlobals, v.free, builtinsNs)
def DefV.ok (K : PySem.W.Frag) (v : DefV) : Bool := match v.free with
  | [] => v.d.ok K
  | _ => true
theorem DefV.funD {K : PySem.W.Frag} {d : DefD} (e : fnV K d.at_ = DefV.val ⟨d, []⟩) (c : d.ok K = true) : ∃ fd, FunD K d.name d.qual d.params d.body d.scope (d.dvs K) (d.kws K) (fAd K d.at_) fd := by
  refine DefD.funD ?_ c
  unfold fnV at e
  unfold fnW
  split at e
  · rename_i oc od fd osl q
    rw [q]
    have e2 : (some (fd.name, fd.qualname, fd.params, fd.body, fd.scope, fd.globals, fd.closure.map (·.1), fd.builtins) : FnV) = some (d.name, d.qual, d.params, .stmts d.body, d.scope, mainGlobals, [], builtinsNs) := e
    simp only [Option.some.injEq, Prod.mk.injEq] at e2
    obtain ⟨h1, h2, h3, h4, h5, h6, h7, h8⟩ := e2
    have h9 : fd.closure = [] := List.map_eq_nil_iff.mp h7
    show (some (fd.name, fd.qualname, fd.params, fd.body, fd.scope, fd.globals, fd.closure, fd.builtins) : FnW) = some (d.name, d.qual, d.params, .stmts d.body, d.scope, mainGlobals, [], builtinsNs)
    rw [h1, h2, h3, h4, h5, h6, h8, h9]
  · cases e
/-- the Hook -/
abbrev AlP : Type := Bool × List FnV
def obsP (ck : PySem.W.Frag → Bool) (fn : List DefV) (K : PySem.W.Frag) : AlP := (ck K && fn.all fun d => d.ok K, fn.map fun d => fnV K d.d.at_)
def valP (fn : List DefV) : AlP := (true, fn.map DefV.val)
def SaysP (ck : PySem.W.Frag → Bool) (fn : List DefV) (K : PySem.W.Frag) : Prop := obsP ck fn K = valP fn
section
variable {ck : PySem.W.Frag → Bool} {fn : List DefV} {K : PySem.W.Frag}
theorem SaysP.chk (c : SaysP ck fn K) : ck K = true := (Bool.and_eq_true_iff.mp (show (ck K && fn.all fun d => d.ok K) = true from congrArg (fun z : AlP => z.1) c)).1
theorem SaysP.val (c : SaysP ck fn K) (i : Nat) {d : DefV} (h : fn[i]? = some d := by rfl) : fnV K d.d.at_ = d.val := by
  have e : (fn.map fun d => fnV K d.d.at_) = fn.map DefV.val := congrArg (fun z : AlP => z.2) c
  have e2 : (fn.map fun d => fnV K d.d.at_)[i]? = (fn.map DefV.val)[i]? := by rw [e]
  rw [List.getElem?_map, List.getElem?_map, h] at e2
  exact Option.some.inj e2
theorem SaysP.def_ (c : SaysP ck fn K) (i : Nat) {d : DefD} (h : fn[i]? = some ⟨d, []⟩ := by rfl) : ∃ fd, FunD K d.name d.qual d.params d.body d.scope (d.dvs K) (d.kws K) (fAd K d.at_) fd := by
  have c2 := (Bool.and_eq_true_iff.mp (show (ck K && fn.all fun d => d.ok K) = true from congrArg (fun z : AlP => z.1) c)).2
  exact DefV.funD (c.val i h) (List.all_eq_true.mp c2 _ (List.mem_of_getElem? h))
end
/-- such an __init__, as sup_ok wants it -/
theorem supC_of {P : Program} {K : PySem.W.Frag} {c nm qual : Str} {params : Arguments} {body : List Stmt} {scope : Scope} (hi : iniB K P.main.file c = true) (hv : fnV K (c, some "__init__") = (some (nm, qual, params, FuncBody.stmts body, scope, mainGlobals, ["__class__"], builtinsNs) : FnV))
    (hany : eqO (PySem.W.nsIn K cStatics "thirdparty.any") (some none) = true) (htop : (P.main.scope.names.lookup ("super" : Str)).isSome = false) :
    ∃ (F : NF) (doc pm ctv : Value), F.name = nm ∧ F.params = params ∧ F.body = body ∧ F.scope = scope ∧ SupC P K (ga K c) (ma K (ga K c) "__init__") F doc pm ctv ∧
      PySem.W.findIn K (.ref (ga K c)) "__init__" = some (some (.ref (ma K (ga K c) "__init__"))) ∧ PySem.W.typeIn K (.ref (ma K (ga K c) "__init__")) = some (.type "function") ∧ XfK K c := by
  unfold iniB at hi
  simp only [Bool.and_eq_true] at hi
  obtain ⟨h1, h2, h3, h4, h5, h6, h7, h8, h9, h10, h11, h12, h13⟩ := hi
  obtain ⟨e1, e2, e3, e4⟩ := errB_ok h1
  unfold fnV at hv
  unfold iniF at h8
  have ea : fAd K (c, some "__init__") = ma K (ga K c) "__init__" := rfl
  rw [ea] at hv
  cases q : K.lookup (ma K (ga K c) "__init__") with
  | none => rw [q] at hv; cases hv
  | some o =>
    obtain ⟨oc, od, dt, osl⟩ := o
    rw [q] at hv h8
    cases dt with
    | func fd =>
      obtain ⟨n1, n2, n3, n4, n5, n6, n7, n8, n9, n10, n11, n12, n13, n14, n15⟩ := fd
      have e5 : (some (n1, n2, n3, n4, n5, n6, n7.map (·.1), n15) : FnV) = some (nm, qual, params, FuncBody.stmts body, scope, mainGlobals, [Str.ofString "__class__"], builtinsNs) := hv
      simp only [Option.some.injEq, Prod.mk.injEq] at e5
      obtain ⟨r1, r2, r3, r4, r5, r6, r7, r8⟩ := e5
      subst r1 r2 r3 r4 r5 r6 r8
      simp only [Bool.and_eq_true, decide_eq_true_eq] at h8
      obtain ⟨g1, g2, g3, g4, g5⟩ := h8
      subst g1 g2 g3
      split at g4
      · rename_i cc
        simp only [Bool.and_eq_true] at g4
        obtain ⟨g6, g7⟩ := g4
        split at g7
        · rename_i ccl cdd vs ccs qc
          split at g7
          · rename_i f tf qf
            have ef : f = P.main.file := of_decide_eq_true g7
            split at g5
            · rename_i x cl
              split at g5
              · rename_i o1 o2 D o3 qd
                have eD : D = ga K c := of_decide_eq_true g5
                subst eD
                have ex : x = "__class__" := by simpa using r7
                subst ex
                refine ⟨⟨n1, n2, n3, _, n5, [("__class__", cl)], cc⟩, n10, n11, n14, rfl, rfl, rfl, rfl, ⟨⟨oexB_ok h2, eqO_ok h3, of_decide_eq_true h4, eqOV_ok h5, e2⟩, ⟨oc, od, osl, q⟩, ⟨cl, _, _, _, rfl, qd⟩, g6, ⟨ccl, cdd, vs, ccs, f, tf, qc, qf, by rw [ef]; exact beq_self_eq_true _⟩, of_decide_eq_true h9, eqO_ok h10, of_decide_eq_true h11, eqO_ok hany, htop⟩, eqO_ok h6, eqOV_ok h7, xfB_ok h13, eqO_ok h12⟩
              · cases g5
            · cases g5
          · cases g7
        · cases g7
      · cases g4
    | _ => cases hv
end DL
set_option Elab.async false
set_option maxRecDepth 100000
set_option maxHeartbeats 4000000
set_option linter.unusedVariables false
/-! data-level layer: what a law's defs lean on: built-in names, the classes of errors; kinds of promises -/
namespace DL
open PySem PySem.Spec PyProof.Rows L2 NdefX
/-- the built-in names that are not bound by the module -/
structure Bt (mg : Str → Option Value) (l : List Str) : Prop where
  all : ∀ x ∈ l, mg x = none
theorem Bt.of {mg : Str → Option Value} {l : List Str} (b : Bt mg l) (x : Str) (h : l.contains x = true := by decide +kernel) : mg x = none := b.all x (by simpa using h)
/-- the classes of errors -/
structure ErF (K : PySem.W.Frag) (mg : Str → Option Value) (cs : List Str) : Prop where
  mg : ∀ c ∈ cs, mg c = some (.ref (He.ga K c))
  ex : ∀ c ∈ cs, ExK K (He.ga K c)
  kit : ∀ c ∈ cs, ∀ e ∈ cs, PySem.W.kitOne K (.ref (He.ga K c)) (.ref (He.ga K e)) = some (c == e || e == "ShadeError")
  ve : ∀ c ∈ cs, PySem.W.kitOne K (.ref (He.ga K c)) (.type "ValueError") = some true
  exm : ∀ c ∈ cs, PySem.W.exmOne K (.ref (He.ga K c)) (.ref (He.ga K "ShadeError")) = some true
def isCls (cs : List Str) (e : Str) : D → Option Bool
  | .exc c _ _ _ => if cs.contains c then some (c == e || e == "ShadeError") else none
  | _ => none
def isVE (cs : List Str) : D → Option Bool
  | .exc c _ _ _ => if cs.contains c then some true else none
  | _ => none
def caSE (cs : List Str) : Str → Option Bool := fun c => if cs.contains c then some true else none
section
variable {K : PySem.W.Frag} {mg : Str → Option Value} {cs : List Str}
theorem ErF.is (T : ErF K mg cs) {e : Str} (he : cs.contains e = true) : ∀ d b, isCls cs e d = some b → Isi K d (.ref (He.ga K e)) b := by
  intro d b h
  unfold isCls at h
  split at h
  · rename_i c _ _ _
    split at h
    · rename_i hc
      cases h
      exact ⟨T.ex c (by simpa using hc), T.kit c (by simpa using hc) e (by simpa using he)⟩
    · cases h
  · cases h
theorem ErF.isVE (T : ErF K mg cs) : ∀ d b, DL.isVE cs d = some b → Isi K d (.type "ValueError") b := by
  intro d b h
  unfold DL.isVE at h
  split at h
  · rename_i c _ _ _
    split at h
    · rename_i hc
      cases h
      exact ⟨T.ex c (by simpa using hc), T.ve c (by simpa using hc)⟩
    · cases h
  · cases h
theorem ErF.ca (T : ErF K mg cs) : ∀ x b, caSE cs x = some b → PySem.W.exmOne K (.ref (He.ga K x)) (.ref (He.ga K "ShadeError")) = some b := by
  intro x b h
  unfold caSE at h
  split at h
  · rename_i hc
    cases h
    exact T.exm x (by simpa using hc)
  · cases h
end
/-! ### kinds of promises -/
/-- by a function of data: a value | an error -/
def WF (f : List D → Option (Except Er D)) : DW1 := fun ds Q E => match f ds with
  | some (.ok d) => Q (.sh d)
  | some (.error e) => E e
  | none => False
theorem WF_mono {f : List D → Option (Except Er D)} : MonoW (WF f) := fun ds _ _ _ _ hq he h => by
  unfold WF at h ⊢
  split at h
  · exact hq _ h
  · exact he _ h
  · exact h
/-- by relations: P the arguments, R the results, X the errors -/
def WG (P : List D → Prop) (R : List D → Sl → Prop) (X : List D → Er → Prop) : DW1 := fun ds Q E => P ds ∧ (∀ z, R ds z → Q z) ∧ ∀ e, X ds e → E e
theorem WG_mono {P : List D → Prop} {R : List D → Sl → Prop} {X : List D → Er → Prop} : MonoW (WG P R X) := fun ds _ _ _ _ hq he h => ⟨h.1, fun z r => hq _ (h.2.1 z r), fun e r => he _ (h.2.2 e r)⟩
def noX : List D → Er → Prop := fun _ _ => False
/-- an ending by the value itself -/
theorem bodyR {Q : Sl → Prop} {x : Sl} (h : Q x) : ∃ y, Cv x y ∧ Q y := ⟨x, .refl x, h⟩
theorem takes_no {X : Cx} : L2N.Takes X (fun _ _ _ _ => False) := fun _ _ ⟨_, _, _, _, _, _, _, _, _, _, _, _, _, _, _, _, z⟩ => z.elim
theorem hot_of {A : Around} {a : Addr} {oe : Obj} (h : PXN.CtxN oe) (hf : ∃ vs, oe.data = .fields vs) : L2H.Hot1 (A.mark (some (.ref a))) (a, oe) := ⟨rfl, by obtain ⟨vs, e⟩ := hf; exact ⟨vs, e, h vs e⟩⟩
theorem room_mark {k : Nat} {A : Around} (r : Room k A) (h : Option Value) : L2H.RoomH k (A.mark h) := ⟨r.dp, r.un⟩
theorem roomH_units {k : Nat} {A : Around} (r : L2H.RoomH k A) : A.units + 64 < cLine := by have := r.un; omega
end DL
set_option Elab.async false
set_option maxRecDepth 100000
set_option maxHeartbeats 4000000
set_option linter.unusedVariables false
/-! data-level layer: from the check's facts to promises -/
namespace DL
open PySem PySem.Spec PyProof.Rows L2 NdefX He
section
variable {P : Program} {w : World} {K : PySem.W.Frag} {mg : Str → Option Value} {base : Heap} {x qual : Str} {params : Arguments} {body : List Stmt} {scope : Scope} {f : Addr} {fd : FuncData}
theorem bindsK {ps ks : List Str} {js : List Nat} {kws : List (Str × V)} (F : FunD K x qual params body scope [] kws f fd)
    (h : ∀ (kV doc pm : Value) (an : Option Addr) (cdv ct : Value) (ws : List Value), ws.length = ks.length → bindArgs (PySem.W.fnOf x qual params body scope .none kV doc pm an cdv ct) ⟨[], ks.zip ws⟩ = pure (ps.zip (permL js ws))) :
    ∀ (s : Shared) (ws : List Value), K.In s.heap → ws.length = ks.length → BindsTo s fd ⟨[], ks.zip ws⟩ (ps.zip (permL js ws)) := fun s ws _ hl => by
  obtain ⟨oc, od, dV, kV, doc, pm, an, cdv, ct, osl, rfl, lk, hcd, hD, hK⟩ := F.ex
  rcases hD with ⟨_, rfl⟩ | ⟨e, _⟩
  · exact .of_eq (h kV doc pm an cdv ct ws hl)
  · exact absurd rfl e
theorem fdk_ok {N ps ks : List Str} {js : List Nat} {k : Nat} {W : DW1} (hW : MonoW W) (F : FunD K x qual params body scope [] [] f fd) (S : FnScope N ps scope) (hm : mg x = some (.ref f)) (hlen : ∀ ds Q E, W ds Q E → ds.length = ps.length)
    (hbd : ∀ (kV doc pm : Value) (an : Option Addr) (cdv ct : Value) (ws : List Value), ws.length = ks.length → bindArgs (PySem.W.fnOf x qual params body scope .none kV doc pm an cdv ct) ⟨[], ks.zip ws⟩ = pure (ps.zip (permL js ws)))
    (hb : ∀ (cdv : Value) (A : Around) (outer : List Env) (s : Shared) (H : Hp) (E : XK) (so : Option Addr) (B : Hp), Room k (A.deeper (envOfC qual scope s.heap.objs.size f cdv)) →
      L2N.Takes (cxD P w K mg base N qual scope f cdv A outer s H E) (fun cls d _ H => E cls d H) →
      ∃ wb, DSs ⟨K, so, B, H, fun _ => E⟩ (cxD P w K mg base N qual scope f cdv A outer s H E) body wb ∧ ∀ ds Q E', W ds Q E' → wb (bodyEnds Q) (entry N.length ds) (fun e _ => E' e)) :
    FDK P w K mg base (k + 1) x ps.length ks js W := ⟨hW, f, fd, ps, rfl, hm, F.kp, fn_body F S hlen hb, bindsK F hbd⟩
/-- a promise that asks for what is never so -/
theorem fd_never {ps : List Str} {k : Nat} {W : DW1} (hW : ∀ ds Q E, ¬ W ds Q E) (F : FunD K x qual params body scope [] [] f fd) (hm : mg x = some (.ref f))
    (hbd : ∀ (kV doc pm : Value) (an : Option Addr) (cdv ct : Value) (us : List Value), us.length = ps.length → bindArgs (PySem.W.fnOf x qual params body scope .none kV doc pm an cdv ct) ⟨us, []⟩ = pure (ps.zip us)) : FD P w K mg base k x ps.length W :=
  ⟨fun _ _ _ _ _ _ _ h => (hW _ _ _ h).elim, f, fd, ps, rfl, hm, F.kp, ⟨fun vs H Q E ⟨so, B, ds, ln, _, _, hv, h⟩ => (hW _ _ _ h).elim, fun A outer s H args us vs Q E _ _ _ _ ⟨so, B, ds, ln, _, _, hv, h⟩ => (hW _ _ _ h).elim⟩, F.bindsN hbd⟩
end
section
variable {P : Program} {w : World} {K : PySem.W.Frag} {mg : Str → Option Value} {base : Heap}
/-- an own class of errors, by its checks -/
theorem erc_of {c nm qual y : Str} {params : Arguments} {body : List Stmt} {scope : Scope} {e : Expr} {te : TE} {p0 p1 p2 p3 p4 a1 a2 a3 a4 : Pos} (hi : iniB K P.main.file c = true) (hv : fnV K (c, some "__init__") = (some (nm, qual, params, FuncBody.stmts body, scope, mainGlobals, ["__class__"], builtinsNs) : FnV))
    (hany : eqO (PySem.W.nsIn K cStatics "thirdparty.any") (some none) = true) (htop : (P.main.scope.names.lookup ("super" : Str)).isSome = false) (hmg : mg c = some (.ref (ga K c))) (ms : mg "super" = none)
    (Sc : NScope [("self" : Str), y, "__class__"] [("self" : Str), y] ["__class__"] scope)
    (hbd : body = [.Expr (.Call (.Attribute (.Call (.Name "super" p0) [] [] p1) "__init__" p2) [e] [] p3) p4, .Assign [.Attribute (.Name "self" a1) (fieldOf c) a2] (.Name y a3) a4])
    (hpe : ∀ X : Cx, X.N = [("self" : Str), y, "__class__"] → X.env.scope = scope → PE X e te) (hrd : FsRd te)
    {ar : Arg} (har : (params.posonlyargs ++ params.args).head? = some ar) (harn : ar.arg = "self") (hks : scope.names.lookup ("super" : Str) = some .globalImplicit)
    (hst : ∀ env : Env, starEach [e] env = (false, eval e env) :: starEach [] env)
    (hl : (p2.endLine == p3.line) = true)
    (hyd : (y == ("__debug__" : Str)) = false) (hyc : (y == ("__classdict__" : Str)) = false)
    (hbind : ∀ (n q : Str) (b : List Stmt) (sc : Scope) (cl : List (Str × Addr)) (cc : Addr) (doc pm ctv : Value) (us : List Value), us.length = 2 → bindArgs ((⟨n, q, params, b, sc, cl, cc⟩ : NF).fd doc pm ctv) ⟨us, []⟩ = pure ([("self" : Str), y].zip us)) :
    ErC P w K mg base c ∧ XfK K c := by
  have hev : ∀ env : Env, eval (.Call (.Attribute (.Call (.Name "super" p0) [] [] p1) "__init__" p2) [e] [] p3) env = (do
      let ov ← attributeBase (.Call (.Name "super" p0) [] [] p1) "__init__" env (eval (.Call (.Name "super" p0) [] [] p1) env)
      standAt p2.atName
      let (f, first) ← holding [ov] (getMethod ov "__init__" (pure false))
      callWith p3 f first (backTo p3 (starEach [e] env)) []) := fun env => by
    show (do
      let ov ← attributeBase (.Call (.Name "super" p0) [] [] p1) "__init__" env (eval (.Call (.Name "super" p0) [] [] p1) env)
      standAt p2.atName
      methodCall (.Call (.Name "super" p0) [] [] p1) "__init__" p2 p3 env ov 1 (backTo p3 (starEach [e] env)) []) = _
    congr 1
    funext ov
    congr 1
    funext _
    exact mcall_line (by rw [hst env]; rfl) hl
  obtain ⟨F, doc, pm, ctv, f1, f2, f3, f4, S, h1, h2, h3⟩ := supC_of (P := P) hi hv hany htop
  refine ⟨⟨hmg, S.ox, ma K (ga K c) "__init__", F.fd doc pm ctv, [("self" : Str), y], h1, h2, init_ok S ms (f4 ▸ Sc) (f3.trans hbd) (fun X e1 e2 => hpe X e1 (e2.trans f4)) hrd h3.2 (by rw [f2]; exact har) harn (by rw [f4]; exact hks) hst hev hyd hyc, .all fun us hl => ?_⟩, h3⟩
  obtain ⟨n, q, pr, b, sc, cl, cc⟩ := F
  cases f2
  exact hbind n q b sc cl cc doc pm ctv us hl
/-- the classes of errors, by the checks -/
theorem erF_of {h : Heap} {errs : List Str} (X : K.In h) (G : h.Ns mainGlobals mg) (c1 : (errs.all (errB K)) = true)
    (c3 : (errs.all fun c => errs.all fun e => decide (PySem.W.kitOne K (.ref (ga K c)) (.ref (ga K e)) = some (c == e || e == "ShadeError"))) = true)
    (c4 : (errs.all fun c => decide (PySem.W.kitOne K (.ref (ga K c)) (.type "ValueError") = some true)) = true) : ErF K mg errs := by
  have a1 := fun c hc => errB_ok (List.all_eq_true.mp c1 c hc)
  exact ⟨fun c hc => glo_ok X G (a1 c hc).1, fun c hc => (a1 c hc).2.2.1, fun c hc e he => of_decide_eq_true (List.all_eq_true.mp (List.all_eq_true.mp c3 c hc) e he), fun c hc => of_decide_eq_true (List.all_eq_true.mp c4 c hc), fun c hc => (a1 c hc).2.2.2⟩
theorem bt_of {h : Heap} {l : List Str} (X : K.In h) (G : h.Ns mainGlobals mg) (c : (l.all fun x => (Fa.free x).ok K) = true) : Bt mg l := ⟨fun x hx => free_ok X G (List.all_eq_true.mp c x hx)⟩
end
end DL
set_option Elab.async false
set_option maxRecDepth 100000
set_option maxHeartbeats 4000000
set_option linter.unusedVariables false
/-! data-level layer, part z: errors with no value; an error that keeps a copy of a list; x.split(sep) -/
namespace DL
open PySem PySem.Spec PyProof.Rows L2 NdefX He

/-! ### errors with no value -/
section
variable {X : Cx} {p pos pos' : Pos} {c : Str}
end
abbrev veB : List Value := [.type "ValueError", .type "Exception", .type "BaseException", .type "object"]
def ernB (K : PySem.W.Frag) (c : Str) : Bool := PySem.W.excIn K (He.ga K c) veB "ValueError.__new__" && (decide (PySem.W.subIn K (.ref (He.ga K c)) (.type "BaseException") = some true) && eqOV (PySem.W.typeIn K (.ref (He.ga K c))) (some (.type "type")))
def wRaise0 (c : Str) : DS := fun _ ρ E => E ⟨c, none⟩ ρ
section
variable {G : Gx} {X : Cx} {p pos pos' : Pos} {c : Str}
end

/-! ### an error that keeps a copy of a list -/
section
variable {P : Program} {w : World} {K : PySem.W.Frag} {mg : Str → Option Value} {base : Heap} {C fI : Addr} {F : NF} {doc pm ctv : Value} {CX : CXT}
end
/-- raise c(x), x a list of one's own: it stays one's own -/
def wRaiseL (c : Str) (i : Nat) : DS := fun _ ρ E => match ρ[i]? with
  | some (.ow _ ds) => E ⟨c, some (.lst ds)⟩ ρ
  | _ => False
section
variable {G : Gx} {X : Cx} {p pos pos' px : Pos} {c x : Str}
end
section
variable {P : Program} {w : World} {K : PySem.W.Frag} {mg : Str → Option Value} {base : Heap}
end

/-! ### x.split("..") -/
def wSplit (b : Str) (wa : DT Sl) : DT Sl := fun ρ Q E => wa ρ (fun x ρ1 => match x.dat with
  | .str a => (b.length == 0) = false ∧ a.length + 2 ≤ sizeLine ∧ ∀ p, Q (.ow p ((Txt.split a b).map D.str)) ρ1
  | _ => False) E
section
variable {G : Gx} {X : Cx} {a : Expr} {wa : DT Sl} {pos apos q : Pos} {b : Str} {j : Option Str}
end
end DL
set_option Elab.async false
set_option maxRecDepth 100000
set_option maxHeartbeats 4000000
set_option linter.unusedVariables false
/-! data-level layer, strings: str(int), int(str), join, f-strings, slices, one sign in a text, the signs in turn; x += e; constants that are texts -/
namespace DL
open PySem PySem.Spec PyProof.Rows L2 NdefX
def ndB (K : PySem.W.Frag) : Bool := PySem.W.nsOkIn K cStatics && He.eqO (PySem.W.nsIn K cStatics "sys.int_max_str_digits") (some none)
/-- an int whose text is not too long -/
def WdI (i : Int) : Prop := i.natAbs < 2 ^ 14000
/-- an int's text -/
def intS (i : Int) : Str := Str.ofString (toString i)
def pStr : List D → Prop | [.int i] => WdI i | _ => False
def fStr : List D → D | [.int i] => .str (intS i) | _ => .non
def pIntS : List D → Prop | [.str a] => (∃ n, intText? a = some n) ∧ a.length ≤ 640 | _ => False
def fIntS : List D → D | [.str a] => .int ((intText? a).getD 0) | _ => .non
section
variable {G : Gx} {X : Cx} {a b e : Expr} {wr : DT (List Sl)} {wa wb we : DT Sl} {p pos apos q : Pos}
/-! ### sep.join(xs) -/
def wJoin (z : Str) (wa : DT Sl) : DT Sl := fun ρ Q E => wa ρ (fun x ρ1 => match x.dat with
  | .lst ds => ∃ ys : List Str, ds = ys.map D.str ∧ (ys.map (·.length)).sum + ys.length * z.length ≤ 16777216 ∧ Q (.sh (.str (Txt.join z ys))) ρ1
  | _ => False) E
/-! ### f"{a}..{b}" -/
def txtD : D → Option Str
  | .int i => some (intS i)
  | .str x => some x
  | _ => none
def okTxt : D → Prop
  | .int i => WdI i
  | .str x => x.length ≤ 100000
  | _ => False
def wFs (z : Str) (wa wb : DT Sl) : DT Sl := fun ρ Q E => wa ρ (fun x ρ1 => okTxt x.dat ∧ ∃ s, txtD x.dat = some s ∧ s.length + z.length ≤ sizeLine ∧
  wb ρ1 (fun y ρ2 => okTxt y.dat ∧ ∃ t, txtD y.dat = some t ∧ s.length + z.length + t.length ≤ sizeLine ∧ Q (.sh (.str (s ++ z ++ t))) ρ2) E) E
/-! ### a[:e], a[e:f] of a text -/
def wSlS1 (wa we : DT Sl) : DT Sl := fun ρ Q E => wa ρ (fun x ρ1 => we ρ1 (fun y ρ2 => match x.dat, y.dat with
  | .str z, .int i => z.length ≤ sizeLine ∧ Q (.sh (.str (cutS z none (some i)))) ρ2
  | _, _ => False) E) E
def wSlS2 (wa we wf : DT Sl) : DT Sl := fun ρ Q E => wa ρ (fun x ρ1 => we ρ1 (fun y ρ2 => match y.dat with
  | .int i => wf ρ2 (fun u ρ3 => match x.dat, u.dat with
    | .str z, .int j => z.length ≤ sizeLine ∧ Q (.sh (.str (cutS z (some i) (some j)))) ρ3
    | _, _ => False) E
  | _ => False) E) E
/-! ### one sign in a text -/
def roInS (neg : Bool) : RO2 := fun d e Q => match d, e with
  | .str x, .str z => ∃ c, x = ⟨#[c]⟩ ∧ Q (.sh (.bl (if neg then !decide (c ∈ z.cps.toList) else decide (c ∈ z.cps.toList))))
  | _, _ => False
/-! ### a constant of the module -/
end
/-! ### x += e, ints -/
def wAug (i : Nat) (we : DT Sl) : DS := fun D ρ E => match ρ[i]? with
  | some (.sh (.int k)) => we ρ (fun y ρ1 => match y.dat with
    | .int j => D.nx (ρ1.set i (.sh (.int (k + j))))
    | _ => False) E
  | _ => False
section
variable {G : Gx} {X : Cx} {e : Expr} {we : DT Sl} {pos px : Pos}
end
/-! ### the signs of a text in turn -/
def signs (z : Str) : List D := z.cps.toList.map fun c => .str ⟨#[c]⟩
def wItemsC (w : DT Sl) : DT (List D) := fun ρ Q E => w ρ (fun x ρ1 => match x.dat with
  | .str z => Q (signs z) ρ1
  | _ => False) E
section
variable {G : Gx} {X : Cx}
end
end DL
set_option Elab.async false
set_option maxRecDepth 100000
set_option maxHeartbeats 4000000
set_option linter.unusedVariables false
/-! data-level layer: texts cut behind, repeated and asked for digits; lists of texts asked for a text -/
namespace DL
open PySem PySem.Spec PyProof.Rows L2 NdefX
/-! ### a[e:] -/
def wSlS0 (wa we : DT Sl) : DT Sl := fun ρ Q E => wa ρ (fun x ρ1 => we ρ1 (fun y ρ2 => match x.dat, y.dat with
  | .str z, .int i => z.length ≤ sizeLine ∧ Q (.sh (.str (cutS z (some i) none))) ρ2
  | _, _ => False) E) E
/-! ### x.isdigit() -/
def wIsdig (wa : DT Sl) : DT Sl := fun ρ Q E => wa ρ (fun x ρ1 => match x.dat with
  | .str z => Q (.sh (.bl (Txt.isdigit z))) ρ1
  | _ => False) E
/-! ### s * n -/
def repS (z : Str) (n : Nat) : Str := ⟨(List.replicate n z.cps.toList).flatten.toArray⟩
def roMulS : RO2 := fun d e Q => match d, e with
  | .str z, .int n => z.length = 1 ∧ n ≤ 1000 ∧ -1000 ≤ n ∧ Q (.sh (.str (repS z n.toNat)))
  | _, _ => False
section
variable {X : Cx}
end
/-- x (not) in a list of texts -/
def roInL (neg : Bool) : RO2 := fun d e Q => match d, e with
  | .str x, .lst ds => ∃ ys : List Str, ds = ys.map D.str ∧ Q (.sh (.bl (if neg then !decide (x ∈ ys) else decide (x ∈ ys))))
  | _, _ => False
section
variable {G : Gx} {X : Cx} {a b e : Expr} {wa wb we : DT Sl} {pos apos : Pos}
def wIndexS (wa we : DT Sl) : DT Sl := fun ρ Q E => wa ρ (fun x ρ1 => (∃ ds, x.dat = .lst ds) ∧ we ρ1 (fun y ρ2 => match x.dat, y.dat with
  | .lst ds, .str k => ∃ ys : List Str, ds = ys.map D.str ∧ k ∈ ys ∧ Q (.sh (.int (ys.idxOf k : Nat))) ρ2
  | _, _ => False) E) E
end
end DL
set_option Elab.async false
set_option maxRecDepth 100000
set_option maxHeartbeats 4000000
set_option linter.unusedVariables false
/-! data-level layer, part Mc: what an own class defines: x + y, x & y, x == y, ~x, len(x), str(x), x[i] -/
namespace DL
open PySem PySem.Spec PyProof.Rows L2 NdefX
section
variable {X : Cx} {pins : List (Addr × Obj)} {σ : St} {H : Hp} {s : Shared} {A' : Around} {k : Nat} {f : Addr} {fd : FuncData} {ps : List Str} {sp : Sp} {vs : List V} {us : List Value} {Q : VK} {E : XK}
end
section
variable {X : Cx} {k : Nat} {C f : Addr} {fd : FuncData} {ps : List Str} {sp : Sp} {E : XK}
end

/-! ### by data -/
def insOf (c : Str) : D → Prop
  | .ins c' _ _ => c' = c
  | _ => False
def wOwn2 (c : Str) (W : DW1) (wa wb : DT Sl) : DT Sl := fun ρ Q E => wa ρ (fun x ρ1 => wb ρ1 (fun y ρ2 => insOf c x.dat ∧ insOf c y.dat ∧ W [x.dat, y.dat] (fun z => Q z ρ2) (fun e => E e ρ2)) E) E
def wOwnI (c : Str) (W : DW1) (wa wb : DT Sl) : DT Sl := fun ρ Q E => wa ρ (fun x ρ1 => wb ρ1 (fun y ρ2 => insOf c x.dat ∧ W [x.dat, y.dat] (fun z => Q z ρ2) (fun e => E e ρ2)) E) E
def wOwn1 (c : Str) (W : DW1) (wa : DT Sl) : DT Sl := fun ρ Q E => wa ρ (fun x ρ1 => insOf c x.dat ∧ W [x.dat] (fun z => Q z ρ1) (fun e => E e ρ1)) E
def wOwnLen (c : Str) (W : DW1) (wa : DT (List Sl)) : DT Sl := fun ρ Q E => wa ρ (fun xs ρ1 => ∃ d, datas xs = [d] ∧ insOf c d ∧ W [d] (fun z => (∃ n : Nat, z = .sh (.int n) ∧ n < 2 ^ 63) ∧ Q z ρ1) (fun e => E e ρ1)) E
def wOwnStr (c : Str) (W : DW1) (wa : DT (List Sl)) : DT Sl := fun ρ Q E => wa ρ (fun xs ρ1 => ∃ d, datas xs = [d] ∧ insOf c d ∧ W [d] (fun z => (∃ y : Str, z = .sh (.str y)) ∧ Q z ρ1) (fun e => E e ρ1)) E
section
variable {c : Str} {W : DW1} {wa wb : DT Sl} {wr : DT (List Sl)}
end
section
variable {G : Gx} {X : Cx} {a b : Expr} {wa wb : DT Sl} {pos p : Pos} {c m : Str} {k : Nat} {W : DW1}
end
end DL
set_option Elab.async false
set_option maxRecDepth 100000
set_option maxHeartbeats 4000000
set_option linter.unusedVariables false
/-! data-level layer, part Md: displays that keep what is one's own within, things lent to a call -/
namespace DL
open PySem PySem.Spec PyProof.Rows L2 NdefX
/-- a slot that may stand within a thing of one's own -/
def okO : Sl → Bool
  | .un => false
  | .sh d => NoL d
  | .ow _ ds => NoLs ds
  | .dp _ _ => true
abbrev feetO (xs : List Sl) : List Addr := xs.flatMap Sl.foot
/-- the same, told as a tree of one's own -/
theorem okO_dpr {K : PySem.W.Frag} {so : Option Addr} {B H : Hp} {v : V} {x : Sl} (h : RepS K so B H (some v) x) (o : okO x = true) : Dpr K so B H v x.dat x.foot := by
  cases x with
  | un => cases o
  | sh d => exact .leaf (show Rp K so B v d from h) o
  | ow p ds =>
    obtain ⟨rfl, vs, h1, h2⟩ : v = .ref p ∧ ∃ vs, H p = some (.lst vs) ∧ Rps K so B vs ds := h
    exact .lst h1 (h2.dprs o)
  | dp F d => exact (show Dpr K so B H v d F from h)
theorem feet_temps : ∀ {vs : List V} {xs : List Sl}, vs.length = xs.length → feet (temps vs xs) = feetO xs
  | [], [], _ => rfl
  | [], _ :: _, l => by cases l
  | _ :: _, [], l => by cases l
  | v :: vs, x :: xs, l => by
    show feet ((some v, x) :: temps vs xs) = _
    rw [feet_cons, feet_temps (by simpa using l)]
    rfl
theorem temps_dprs {K : PySem.W.Frag} {so : Option Addr} {B H : Hp} : ∀ {vs : List V} {xs : List Sl}, vs.length = xs.length → (∀ r ∈ temps vs xs, RepS K so B H r.1 r.2) → (∀ x ∈ xs, okO x = true) → Dprs K so B H vs (datas xs) (feetO xs)
  | [], [], _, _, _ => .nil
  | [], _ :: _, l, _, _ => by cases l
  | _ :: _, [], l, _, _ => by cases l
  | v :: vs, x :: xs, l, h, o => by
    refine .cons (okO_dpr (h (some v, x) List.mem_cons_self) (o x List.mem_cons_self)) (temps_dprs (by simpa using l) (fun r hr => h r (List.mem_cons_of_mem _ hr)) fun y hy => o y (List.mem_cons_of_mem _ hy))
section
variable {G : Gx} {σ : St} {ρ : DEnv} {τ : Roots} {H : Hp} {vs : List V} {xs : List Sl}
/-- what stands under the temporaries becomes one root -/
theorem At.gather {v : V} {d : D} {F : List Addr} {B H' : Hp} (l : ρ.length = σ.length) (hr : Rel G (σ.zip ρ ++ τ ++ temps vs xs) H' B) (hf : F.Nodup) (hd : ∀ p ∈ F, p ∈ feetO xs ∨ (B p = none ∧ G.H0 p = none ∧ G.so ≠ some p ∧ p ∉ feet (σ.zip ρ ++ τ)))
    (lv : vs.length = xs.length) (q : Dpr G.K G.so B H' v d F) : At G σ ρ (τ ++ [(some v, .dp F d)]) H' := by
  have hn := hr.nd
  rw [feet_append, feet_temps lv] at hn
  obtain ⟨n1, n2, n3⟩ := List.nodup_append.mp hn
  refine ⟨l, B, hr.lo, hr.hi, hr.fr, hr.nw, fun r h => ?_, ?_, fun p hp => ?_, hr.st⟩
  · rw [← List.append_assoc] at h
    rcases List.mem_append.mp h with h | h
    · exact hr.rep r (List.mem_append_left _ h)
    · have e : r = (some v, .dp F d) := by simpa using h
      subst e
      exact q
  · rw [← List.append_assoc, feet_append, feet_one]
    refine List.nodup_append.mpr ⟨n1, hf, fun a ha b hb z => ?_⟩
    subst z
    rcases hd a hb with h | h
    · exact n3 a ha a h rfl
    · exact h.2.2.2 ha
  · rw [← List.append_assoc, feet_append, feet_one] at hp
    rcases List.mem_append.mp hp with hp | hp
    · exact hr.ap p (by rw [feet_append]; exact List.mem_append_left _ hp)
    · rcases hd p hp with h | h
      · exact hr.ap p (by rw [feet_append, feet_temps lv]; exact List.mem_append_right _ h)
      · exact ⟨h.1, h.2.1, h.2.2.1⟩
end
/-- [a, b, ..], (a, b, ..) that own what their items own -/
def wLstD (wa : DT (List Sl)) : DT Sl := fun ρ Q E => wa ρ (fun xs ρ1 => (∀ x ∈ xs, okO x = true) ∧ ∀ p, Q (.dp (p :: feetO xs) (.lst (datas xs))) ρ1) E
def wTupD (wa : DT (List Sl)) : DT Sl := fun ρ Q E => wa ρ (fun xs ρ1 => (∀ x ∈ xs, okO x = true) ∧ Q (.dp (feetO xs) (.tup (datas xs))) ρ1) E
section
variable {G : Gx} {X : Cx} {es : List Expr} {wr : DT (List Sl)} {pos : Pos}
theorem de_tupD {x1 : Nat} (ha : DA G X es wr) (hK : G.K = X.K) (hz : es.length ≤ 1000 := by decide) : DE G X (.Tuple es x1 pos) (wTupD wr) := by
  refine ⟨fun _ _ _ _ _ hq he q => ha.mono (fun xs ρ1 k => ⟨k.1, hq _ _ k.2⟩) he q, pe_weak (pe_tup ha.pa) fun σ H Q h => ?_⟩
  obtain ⟨ρ, τ, hA, hw⟩ := h
  refine ⟨ρ, τ, hA, ha.mono (fun xs ρ1 k nxs ln l vs H1 lv A1 => ?_) (fun _ _ e => e) hw⟩
  refine ⟨by rw [lv, ln, sizeLine_eq]; omega, fun p hp => k.2 (fun z => by cases z) l _ _ ?_⟩
  obtain ⟨B, hr⟩ := A1.rel
  rw [← List.append_assoc] at hr
  have hd := temps_dprs lv (fun r h => hr.rep r (List.mem_append_right _ h)) k.1
  have h1 := hr.newB (o := .tup vs) hp
  have hn := hr.nd
  rw [feet_append, feet_temps lv] at hn
  obtain ⟨n1, n2, n3⟩ := List.nodup_append.mp hn
  refine At.gather A1.len h1 n2 (fun q hq => .inl hq) lv (.tup (.inl (.inl upd_same)) (hd.mono (same_upd (hr.free hp)) fun q hq o e => ?_))
  rw [upd_ne (ne_of_none e hp)]; exact e
end
/-! ### what holds no store -/
def lfD : D → Bool
  | .non => true
  | .bl _ => true
  | .int _ => true
  | .str _ => true
  | _ => false
def ndK : List Key → Bool
  | [] => true
  | k :: r => !(r.any fun j => decide (j = k)) && ndK r
/-- a dict of single values -/
def okDc (ks : List Key) (ds : List D) : Bool := ks.length == ds.length && (ndK ks && (ds.all lfD && decide (ds.length ≤ 1000)))
theorem lfD_rp {K : PySem.W.Frag} {so so' : Option Addr} {B B' : Hp} {d : D} {v : V} (h : lfD d = true) (r : Rp K so B v d) : Rp K so' B' v d := by
  cases r with
  | non => exact .non
  | bl b => exact .bl b
  | int i => exact .int i
  | str x => exact .str x
  | _ => cases h
theorem lfD_rps {K : PySem.W.Frag} {so so' : Option Addr} {B B' : Hp} : ∀ {ds : List D} {vs : List V}, ds.all lfD = true → Rps K so B vs ds → Rps K so' B' vs ds
  | [], _, _, .nil => .nil
  | d :: ds, _, h, .cons r1 r2 => by
    rw [List.all_cons, Bool.and_eq_true] at h
    exact .cons (lfD_rp h.1 r1) (lfD_rps h.2 r2)
theorem okDc_lf {ks : List Key} {ds : List D} (h : okDc ks ds = true) : ks.length = ds.length ∧ ndK ks = true ∧ ds.all lfD = true ∧ ds.length ≤ 1000 := by
  unfold okDc at h
  simp only [Bool.and_eq_true, beq_iff_eq, decide_eq_true_eq] at h
  exact ⟨h.1, h.2.1, h.2.2.1, h.2.2.2⟩
def plS : Nat → D → Bool
  | 0, _ => false
  | _ + 1, .non => true
  | _ + 1, .bl _ => true
  | _ + 1, .int _ => true
  | _ + 1, .str _ => true
  | _ + 1, .dic ks ds => okDc ks ds
  | n + 1, .lst l => decide (l.length ≤ 100000) && l.all (plS n)
  | n + 1, .tup l => decide (l.length ≤ 100000) && l.all (plS n)
  | _ + 1, _ => false
section
variable {K : PySem.W.Frag} {so so' : Option Addr} {B : Hp}
theorem plS_rp : ∀ {n : Nat} {d : D} {v : V}, plS n d = true → Rp K so B v d → Rp K so' B v d := by
  intro n
  induction n with
  | zero => intro d v h; cases h
  | succ n ih =>
    have all : ∀ {ds : List D} {vs : List V}, ds.all (plS n) = true → Rps K so B vs ds → Rps K so' B vs ds := by
      intro ds
      induction ds with
      | nil => intro vs _ r; cases r; exact .nil
      | cons d ds ih2 =>
        intro vs h r
        rw [List.all_cons, Bool.and_eq_true] at h
        cases r with
        | cons r1 r2 => exact .cons (ih h.1 r1) (ih2 h.2 r2)
    intro d v h r
    cases r with
    | non => exact .non
    | bl b => exact .bl b
    | int i => exact .int i
    | str x => exact .str x
    | lst hp hr =>
      have h2 : (decide (_ ≤ 100000) && _) = true := h
      rw [Bool.and_eq_true] at h2
      exact .lst hp (all h2.2 hr)
    | tup hp hr =>
      have h2 : (decide (_ ≤ 100000) && _) = true := h
      rw [Bool.and_eq_true] at h2
      exact .tup hp (all h2.2 hr)
    | @dic p ks vs ds hp hl hr => exact .dic hp hl (lfD_rps (okDc_lf h).2.2.1 hr)
    | ins _ _ _ => cases h
    | exn _ _ => cases h
    | exa _ _ _ _ => cases h
    | sto _ => cases h
    | scr _ => cases h
end
section
variable {G : Gx} {X : Cx} {p pos q1 q2 : Pos} {x : Str} {k : Nat} {W : DW1}
end
end DL
set_option Elab.async false
set_option maxRecDepth 100000
set_option maxHeartbeats 4000000
set_option linter.unusedVariables false
/-! data-level layer, part l: list comprehensions over one name -/
namespace DL
open PySem PySem.Spec PyProof.Rows L2 NdefX
theorem feet_set_un {v : Option V} : ∀ {l : Roots} {i : Nat}, (feet (l.set i (v, .un))).Sublist (feet l)
  | [], _ => List.Sublist.refl _
  | r :: l, 0 => by
    rw [List.set_cons_zero, feet_cons, feet_cons]
    show (([] : List Addr) ++ feet l).Sublist _
    rw [List.nil_append]
    exact List.sublist_append_right _ _
  | r :: l, i + 1 => by
    rw [List.set_cons_succ, feet_cons, feet_cons]
    exact List.Sublist.append (List.Sublist.refl _) feet_set_un
theorem Rel.sub' {G : Gx} {R R' : Roots} {H B : Hp} (h : Rel G R H B) (hs : ∀ r ∈ R', r ∈ R ∨ r.2 = .un) (hn : (feet R').Nodup) : Rel G R' H B :=
  ⟨h.lo, h.hi, h.fr, h.nw, fun r hr => by
    rcases hs r hr with h1 | h1
    · exact h.rep r h1
    · obtain ⟨r1, r2⟩ := r
      cases h1
      cases r1 <;> trivial, hn, (fun p hp => by
    obtain ⟨r, hr, hq⟩ := List.mem_flatMap.mp hp
    rcases hs r hr with h1 | h1
    · exact h.ap p (mem_feet h1 hq)
    · rw [h1] at hq
      cases hq), h.st⟩
theorem At.perm {G : Gx} {σ : St} {ρ : DEnv} {τ τ' : Roots} {H : Hp} (h : At G σ ρ τ H) (hp : τ'.Perm τ) : At G σ ρ τ' H := by
  obtain ⟨l, B, hr⟩ := h
  have hq : (σ.zip ρ ++ τ').Perm (σ.zip ρ ++ τ) := List.Perm.append_left _ hp
  exact ⟨l, B, hr.perm (fun r hr => hq.subset hr) (hq.flatMap_right _)⟩
/-- a slot forgotten, its value any -/
theorem At.wipe {G : Gx} {σ : St} {ρ : DEnv} {τ : Roots} {H : Hp} (i : Nat) (v : Option V) (h : At G σ ρ τ H) : At G (σ.set i v) (ρ.set i .un) τ H := by
  obtain ⟨l, B, hr⟩ := h
  refine ⟨by rw [List.length_set, List.length_set]; exact l, B, hr.sub' (fun r hr => ?_) ?_⟩
  · rw [set_zip] at hr
    rcases List.mem_append.mp hr with hr | hr
    · rcases List.mem_or_eq_of_mem_set hr with hr | hr
      · exact .inl (List.mem_append_left _ hr)
      · exact .inr (by rw [hr])
    · exact .inl (List.mem_append_right _ hr)
  · rw [set_zip]
    refine List.Nodup.sublist ?_ hr.nd
    rw [feet_append, feet_append]
    exact List.Sublist.append feet_set_un (List.Sublist.refl _)
def wTrue : DT Bool := fun ρ Q _ => Q true ρ
/-- the turns of a comprehension: i the name's slot -/
def lcD (i : Nat) (wt : DT Bool) (we : DT Sl) (Q : List D → DEnv → Prop) : List D → List D → DEnv → Prop
  | [], acc, ρ => Q acc ρ
  | d :: ds, acc, ρ => wt (ρ.set i (.sh d)) (fun b ρ2 => if b = true then we ρ2 (fun y ρ3 => acc.length < sizeLine ∧ lcD i wt we Q ds (acc ++ [y.dat]) (ρ3.set i .un)) noE else lcD i wt we Q ds acc (ρ2.set i .un)) noE
/-- what a slot holds beside the comprehension's name -/
def StillS (x : Sl) : Prop := x = .un ∨ ∃ d, x = .sh d
def wLc (i : Nat) (wi : DT (List D)) (wt : DT Bool) (we : DT Sl) : DT Sl := fun ρ Q E => wi ρ (fun items ρ1 => ∃ x, ρ1[i]? = some x ∧ StillS x ∧ lcD i wt we (fun acc ρ2 => ∀ p, Q (.ow p acc) (ρ2.set i x)) items [] (ρ1.set i .un)) E
theorem lcD_mono {i : Nat} {wt : DT Bool} {we : DT Sl} (ht : Mono wt) (he : Mono we) {Q Q' : List D → DEnv → Prop} (hq : ∀ acc ρ, Q acc ρ → Q' acc ρ) : ∀ (ds acc : List D) (ρ : DEnv), lcD i wt we Q ds acc ρ → lcD i wt we Q' ds acc ρ
  | [], acc, ρ, h => hq _ _ h
  | d :: ds, acc, ρ, h => ht (fun b ρ2 k => by
      by_cases hb : b = true
      · rw [if_pos hb] at k ⊢
        exact he (fun y ρ3 k => ⟨k.1, lcD_mono ht he hq _ _ _ k.2⟩) (fun _ _ z => z) k
      · rw [if_neg hb] at k ⊢
        exact lcD_mono ht he hq _ _ _ k) (fun _ _ z => z) h
theorem pts_true {X : Cx} {G : Gx} : PTs X [] (tDB G wTrue) := ⟨fun pins s σ H Q I h => by
  obtain ⟨ρ, τ, hA, hw⟩ := h
  exact wpAny_tests_nil ⟨H, I, hw rfl H hA⟩⟩
theorem pts_cond {X : Cx} {G : Gx} {c : Expr} {wt : DT Bool} (h : DB G X c wt) : PTs X [c] (tDB G wt) := pts_one h.pt
section
variable {G : Gx} {X : Cx}
theorem lc_data {x : Str} {wi : DT (List D)} {wt : DT Bool} {we : DT Sl} {ti : TI} (i : Nat) (mi : Mono wi) (qi : ∀ σ H R, tDI G wi σ H R → ti σ H R) (mt : Mono wt) (me : Mono we) {σ : L2.St} {H : Hp} {Q : VK} (h : tD G (wLc i wi wt we) σ H Q) :
    tLc ti (gName i) (tDB (G.wish fun _ _ _ _ => False) wt) (tD (G.wish fun _ _ _ _ => False) we) ([(x, i)].map (·.2)) σ H Q := by
  refine qi σ H _ ?_
  obtain ⟨ρ, τ, hA, hw⟩ := h
  refine ⟨ρ, τ, hA, mi (fun items ρ1 k l1 J t H1 A1 hJ => ?_) (fun _ _ e => e) hw⟩
  obtain ⟨y, hy, hst, k⟩ := k
  intro D hD
  have hil : i < ρ1.length := (List.getElem?_eq_some_iff.mp hy).1
  have hw0 : wipe σ ([(x, i)].map (·.2)) = σ.set i none := rfl
  have set2 : ∀ v : Option V, (σ.set i none).set i v = σ.set i v := fun v => List.set_set ..
  have seti : ∀ v : Option V, σ[i]? = some v → σ.set i v = σ := fun v e => by
    obtain ⟨hl, e2⟩ := List.getElem?_eq_some_iff.mp e
    rw [← e2]; exact List.set_getElem_self hl
  -- the roots: what the slot held
  obtain ⟨xr, hxr, hback⟩ : ∃ xr : Roots, At G (σ.set i none) (ρ1.set i .un) (τ ++ xr ++ t) H1 ∧ ∀ ρ2 u H2, At G (σ.set i none) ρ2 (τ ++ xr ++ u) H2 → At G σ (ρ2.set i y) (τ ++ u) H2 := by
    obtain ⟨L, R, v, e1, e2, _⟩ := zip_split A1.len hy
    rcases hst with rfl | ⟨d, rfl⟩
    · refine ⟨[], by rw [List.append_nil]; exact A1.wipe i none, fun ρ2 u H2 A2 => ?_⟩
      rw [List.append_nil] at A2
      have A3 := A2.wipe i v
      rw [set2, seti v e1] at A3
      exact A3
    · obtain ⟨B, hr⟩ := A1.rel
      have z := hr.rep (v, .sh d) (by rw [e2]; simp)
      cases v with
      | none => exact z.elim
      | some v =>
        refine ⟨[(some v, .sh d)], ?_, fun ρ2 u H2 A2 => ?_⟩
        · refine ((At.addSh A1.len hr z).wipe i none).perm ?_
          rw [List.append_assoc, List.append_assoc]
          exact List.Perm.append_left _ List.perm_append_comm
        · have A3 := At.store i (A2.perm (τ' := (τ ++ u) ++ [(some v, .sh d)]) (by
            rw [List.append_assoc, List.append_assoc]
            exact List.Perm.append_left _ List.perm_append_comm))
          rw [set2, seti _ e1] at A3
          exact A3
  obtain ⟨lw, B0, r0⟩ := hxr
  have A0 := (At.addOw lw r0 hD .nil).perm (τ' := τ ++ xr ++ [(some (.ref D), .ow D [])] ++ t) (by
    rw [List.append_assoc, List.append_assoc (τ ++ xr)]
    exact List.Perm.append_left _ List.perm_append_comm)
  refine ⟨fun n m Hn => m = items.length - n ∧ n ≤ items.length ∧ ∃ ρn acc, ρn.length = ρ1.length ∧ At G (σ.set i none) ρn (τ ++ xr ++ [(some (.ref D), .ow D acc)] ++ t) Hn ∧
    lcD i wt we (fun acc ρ2 => ∀ p, (fun x ρ' => x ≠ Sl.un → ρ'.length = ρ.length → ∀ v H', At G σ ρ' (τ ++ [(some v, x)]) H' → Q v H') (.ow p acc) (ρ2.set i y)) (items.drop n) acc ρn, ⟨items.length, rfl, Nat.zero_le _, _, [], by rw [List.length_set], A0, k⟩, ?_⟩
  rintro n m Hn ⟨rfl, hn, ρn, acc, ln, An, kn⟩
  obtain ⟨Bn, rn⟩ := An.rel
  have rn2 := rn
  rw [← List.append_assoc] at rn2
  obtain ⟨go, stop⟩ := hJ n _ Hn Bn rn2
  by_cases hlt : n < items.length
  · right
    obtain ⟨g1, g2⟩ := go items[n] (List.getElem?_eq_getElem hlt)
    refine ⟨g1, fun H' => ∃ ρn acc, ρn.length = ρ1.length ∧ At G (σ.set i none) ρn (τ ++ xr ++ [(some (.ref D), .ow D acc)] ++ t) H' ∧
      lcD i wt we (fun acc ρ2 => ∀ p, (fun x ρ' => x ≠ Sl.un → ρ'.length = ρ.length → ∀ v H', At G σ ρ' (τ ++ [(some v, x)]) H' → Q v H') (.ow p acc) (ρ2.set i y)) (items.drop (n + 1)) acc ρn,
      fun H' ⟨ρ', acc', l', A', k'⟩ => ⟨items.length - (n + 1), by omega, rfl, hlt, ρ', acc', l', A', k'⟩, fun v H' hyl => ?_⟩
    obtain ⟨B2, r2, hx⟩ := g2 v H' hyl
    rw [List.drop_eq_getElem_cons hlt] at kn
    rw [hw0]
    show wipe ((σ.set i none).set i (some v)) _ = _ ∧ _
    refine ⟨by show ((σ.set i none).set i (some v)).set i none = σ.set i none; rw [List.set_set, List.set_set], ?_⟩
    have A2 := At.store i (At.addSh (τ := τ ++ xr ++ [(some (.ref D), .ow D acc)] ++ t) An.len (by rw [← List.append_assoc]; exact r2) hx)
    refine ⟨ρn.set i (.sh items[n]), _, A2.wish, mt (fun b ρ2 k2 l2 H2 A3 => ?_) (fun _ _ z => z.elim) kn⟩
    have A3 := A3.unwish
    show if b = true then _ else _
    by_cases hb : b = true
    · rw [if_pos hb] at k2 ⊢
      refine ⟨ρ2, _, A3.wish, me (fun z ρ3 k3 nz l3 u H3 A4 => ?_) (fun _ _ z => z.elim) k2⟩
      have A4 := A4.unwish
      obtain ⟨ks, k3⟩ := k3
      obtain ⟨B4, r4⟩ := A4.freezeLast nz
      have l4 := A4.len
      have e4 : ((σ.set i none).set i (some v)).zip ρ3 ++ (τ ++ xr ++ [(some (V.ref D), Sl.ow D acc)] ++ t ++ [(some u, Sl.sh z.dat)]) = (((σ.set i none).set i (some v)).zip ρ3 ++ (τ ++ xr)) ++ (some (V.ref D), Sl.ow D acc) :: (t ++ [(some u, Sl.sh z.dat)]) := by simp
      rw [e4] at r4
      have zD := r4.rep (some (V.ref D), Sl.ow D acc) (by simp)
      obtain ⟨_, ws, w1, w2⟩ : V.ref D = .ref D ∧ ∃ vs, H3 D = some (.lst vs) ∧ Rps G.K G.so B4 vs acc := zD
      have zu : Rp G.K G.so B4 u z.dat := r4.rep (some u, .sh z.dat) (by simp)
      have r5 := r4.change (es := acc ++ [z.dat]) (w2.append (.cons zu .nil))
      refine ⟨ws, w1, by rw [w2.len]; exact ks, ρ3.set i .un, acc ++ [z.dat], ?_, ?_, k3⟩
      · rw [List.length_set]
        have := l3.trans l2
        rw [List.length_set] at this
        omega
      · have A5 : At G ((σ.set i none).set i (some v)) ρ3 (τ ++ xr ++ [(some (V.ref D), Sl.ow D (acc ++ [z.dat]))] ++ t) (upd H3 D (.lst (ws ++ [u]))) := ⟨l4, B4, r5.sublist (by
          rw [List.append_assoc, List.append_assoc, List.append_assoc]
          refine List.Sublist.append (List.Sublist.refl _) ?_
          rw [List.append_assoc]
          refine List.Sublist.append (List.Sublist.refl _) (List.Sublist.append (List.Sublist.refl _) (List.Sublist.cons_cons _ (List.sublist_append_left _ _))))⟩
        have A6 := A5.wipe i none
        rw [List.set_set, List.set_set] at A6
        exact A6
    · rw [if_neg hb] at k2 ⊢
      refine ⟨ρ2.set i .un, acc, ?_, ?_, k2⟩
      · rw [List.length_set]
        rw [List.length_set] at l2
        omega
      · have A6 := A3.wipe i none
        rw [List.set_set, List.set_set] at A6
        exact A6
  · left
    have e : n = items.length := by omega
    subst e
    rw [List.drop_length] at kn
    refine ⟨stop (Nat.le_refl _), kn D (fun z => by cases z) ?_ (.ref D) Hn (hback ρn _ Hn An.drop)⟩
    rw [List.length_set]
    omega
theorem de_lc {elt iter : Expr} {ifs : List Expr} {scope : Scope} {pos px : Pos} {x : Str} {wi : DT (List D)} {wt : DT Bool} {we : DT Sl} (i : Nat) (hc : X.calm = true) (hN : X.N.Nodup) (hi : DI G X (.Name x px) iter wi) (mt : Mono wt) (me : Mono we)
    (ok : BlkOk X.N X.env.scope scope [(x, i)])
    (hg : ∀ (s : Shared) (H : Hp) (C : Addr) (cl : List (Str × Addr)) (fp : List Addr), PG (X.blk s H scope (compEnvC scope cl C X.env) fp) (.Name x px) (gName i))
    (ht : ∀ (s : Shared) (H : Hp) (C : Addr) (cl : List (Str × Addr)) (fp : List Addr), PTs (X.blk s H scope (compEnvC scope cl C X.env) fp) ifs (tDB (G.wish fun _ _ _ _ => False) wt))
    (he : ∀ (s : Shared) (H : Hp) (C : Addr) (cl : List (Str × Addr)) (fp : List Addr), PE (X.blk s H scope (compEnvC scope cl C X.env) fp) elt (tD (G.wish fun _ _ _ _ => False) we))
    (hs : ∀ x, foldedSetIterable iter X.env x = pure x := by intro _; rfl) :
    DE G X (.ListComp elt [⟨.Name x px, iter, ifs, 0⟩] scope pos) (wLc i wi wt we) := by
  obtain ⟨ti, hti, qi⟩ := hi.pi
  refine ⟨fun ρ Q Q' E E' hq he2 h => hi.mono (fun items ρ1 ⟨x, k1, k2, k3⟩ => ⟨x, k1, k2, lcD_mono mt me (fun acc ρ2 k p => hq _ _ (k p)) _ _ _ k3⟩) he2 h, pe_weak (pe_lc hc hN hti ok hg ht he hs) fun σ H Q h => lc_data i hi.mono qi mt me h⟩
end
end DL
set_option Elab.async false
set_option maxRecDepth 100000
set_option maxHeartbeats 4000000
set_option linter.unusedVariables false
/-! data-level layer, part m: own classes' still instances: attributes, properties, methods -/
namespace DL
open PySem PySem.Spec PyProof.Rows L2 NdefX
section
variable {K : PySem.W.Frag} {so : Option Addr} {B : Hp}
theorem Rps.look {f : Str} {d : D} : ∀ {fs : List Str} {vs : List V} {ds : List D}, Rps K so B vs ds → (fs.zip ds).lookup f = some d → ∃ v, (fs.zip vs).lookup f = some v ∧ Rp K so B v d
  | [], _, _, _, h => by cases h
  | _ :: _, _, _, .nil, h => by cases h
  | g :: fs, _, _, .cons (v := v) (d := d0) h r, e => by
    rw [List.zip_cons_cons, List.lookup_cons] at e
    rw [List.zip_cons_cons, List.lookup_cons]
    cases q : f == g with
    | true => rw [q] at e; cases e; exact ⟨v, rfl, h⟩
    | false => rw [q] at e; exact Rps.look r e
theorem Rps.look_none {f : Str} : ∀ {fs : List Str} {vs : List V}, f ∉ fs → (fs.zip vs).lookup f = none
  | [], _, _ => rfl
  | _ :: _, [], _ => rfl
  | g :: fs, v :: vs, h => by
    rw [List.zip_cons_cons, List.lookup_cons]
    have : (f == g) = false := by
      rw [beq_eq_false_iff_ne]; exact fun e => h (e ▸ List.mem_cons_self)
    rw [this]
    exact Rps.look_none fun z => h (List.mem_cons_of_mem _ z)
end
/-- e.f, an attribute of an instance of a class that ok tells -/
def wFld (ok : Str → Bool) (f : Str) (we : DT Sl) : DT Sl := fun ρ Q E => we ρ (fun x ρ1 => match x.dat with
  | .ins c fs ds => ok c = true ∧ ∃ d, (fs.zip ds).lookup f = some d ∧ Q (.sh d) ρ1
  | _ => False) E
theorem wFld_mono {ok : Str → Bool} {f : Str} {we : DT Sl} (h : Mono we) : Mono (wFld ok f we) := fun _ _ _ _ _ hq he q => h (fun x ρ1 k => by
  split at k
  · obtain ⟨k1, d, k2, k3⟩ := k; exact ⟨k1, d, k2, hq _ _ k3⟩
  · exact k.elim) he q
/-- what the written part says of a class's attribute -/
def FldK (K : PySem.W.Frag) (c f : Str) : Prop := Cls K (He.ga K c) ∧ NoAttr K (He.ga K c) f
/-- a property of the class c: its getter's promise (no error) -/
structure FDg (P : Program) (w : World) (K : PySem.W.Frag) (mg : Str → Option Value) (base : Heap) (k : Nat) (c f : Str) (W : DW1) : Prop where
  mono : MonoW W
  ex : ∃ (p g : Addr) (fd : FuncData) (ps : List Str), Cls K (He.ga K c) ∧ PropOf K (He.ga K c) f p g ∧ FnOk P w K mg base (L2N.CX P w) k g fd ps (spD K 1 W) ∧ Binds K fd ps []
/-- a method of the class c; n counts self -/
structure FDm (P : Program) (w : World) (K : PySem.W.Frag) (mg : Str → Option Value) (base : Heap) (k : Nat) (c m : Str) (n : Nat) (W : DW1) : Prop where
  mono : MonoW W
  ex : ∃ (f : Addr) (fd : FuncData) (ps : List Str), Cls K (He.ga K c) ∧ Meth K (He.ga K c) m f ∧ FnOk P w K mg base (L2N.CX P w) k f fd ps (spD K n W) ∧ Binds K fd ps []
/-- e.f, a property of the class c -/
def wGet (c : Str) (W : DW1) (we : DT Sl) : DT Sl := fun ρ Q E => we ρ (fun x ρ1 => match x.dat with
  | .ins c' fs ds => c' = c ∧ W [.ins c' fs ds] (fun z => Q z ρ1) (fun _ => False)
  | _ => False) E
theorem wGet_mono {c : Str} {W : DW1} {we : DT Sl} (hW : MonoW W) (h : Mono we) : Mono (wGet c W we) := fun _ _ _ _ _ hq he q => h (fun x ρ1 k => by
  split at k
  · exact ⟨k.1, hW (fun z q => hq _ _ q) (fun _ z => z) k.2⟩
  · exact k.elim) he q
/-- e.m(..), a method of the class c -/
def wMeth (c m : Str) (W : DW1) (we : DT Sl) (wa : DT (List Sl)) : DT Sl := fun ρ Q E => we ρ (fun x ρ1 => match x.dat with
  | .ins c' fs ds => c' = c ∧ m ∉ fs ∧ wa ρ1 (fun xs ρ2 => W (.ins c' fs ds :: datas xs) (fun z => Q z ρ2) (fun e => E e ρ2)) E
  | _ => False) E
theorem wMeth_mono {c m : Str} {W : DW1} {we : DT Sl} {wa : DT (List Sl)} (hW : MonoW W) (h : Mono we) (ha : Mono wa) : Mono (wMeth c m W we wa) := fun _ _ _ _ _ hq he q => h (fun x ρ1 k => by
  split at k
  · exact ⟨k.1, k.2.1, ha (fun xs ρ2 k => hW (fun z => hq _ _) (fun e => he _ _) k) he k.2.2⟩
  · exact k.elim) he q
section
variable {G : Gx} {X : Cx} {e o : Expr} {we wo : DT Sl} {f m c : Str} {pos apos : Pos} {k n : Nat} {W : DW1}
theorem de_fld (ok : Str → Bool) (hok : ∀ c, ok c = true → FldK X.K c f) (hK : G.K = X.K) (he : DE G X e we) (hb : attributeBase e f X.env (eval e X.env) = eval e X.env := by rfl) : DE G X (.Attribute e f pos) (wFld ok f we) := by
  refine ⟨wFld_mono he.mono, pe_weak (pe_fld he.pe hb) fun σ H Q h => ?_⟩
  obtain ⟨ρ, τ, hA, hw⟩ := h
  refine ⟨ρ, τ, hA, he.mono (fun x ρ1 k nx l v H1 A1 => ?_) (fun _ _ e => e) hw⟩
  obtain ⟨B, h1, h2⟩ := A1.still nx
  split at k
  · rename_i c fs ds ex
    obtain ⟨k1, d, k2, k3⟩ := k
    rw [ex] at h1
    cases h1 with
    | ins hp hl hr =>
      obtain ⟨u, q1, q2⟩ := hr.look k2
      obtain ⟨t1, t2⟩ := hok _ k1
      refine ⟨_, _, _, _, u, rfl, h2.hi _ _ hp, ?_, ?_, q1, k3 (fun z => by cases z) l u H1 (At.addSh A1.len h2 q2)⟩
      · rw [hK]; exact t1
      · rw [hK]; exact t2
  · exact k.elim
theorem de_prop (F : FDg X.prog X.w X.K X.mg X.base k c f W) (hr : Room (k + 1) X.A) (hK : G.K = X.K) (he : DE G X e we) (hb : attributeBase e f X.env (eval e X.env) = eval e X.env := by rfl) : DE G X (.Attribute e f pos) (wGet c W we) := by
  obtain ⟨hW, p, g, fd, ps, hC, hP, hF, hB⟩ := F
  refine ⟨wGet_mono hW he.mono, pe_weak (pe_prop (CX := L2N.CX X.prog X.w) (dvs := []) (E := fun _ _ _ => False) he.pe hC hP hF hr hB .nil (fun pins σ H s e s' I c => by
    obtain ⟨_, _, _, _, _, _, _, _, _, _, _, _, z⟩ := c
    exact z.elim) hb) fun σ H Q h => ?_⟩
  obtain ⟨ρ, τ, hA, hw⟩ := h
  refine ⟨ρ, τ, hA, he.mono (fun x ρ1 k nx l v H1 A1 => ?_) (fun _ _ e => e) hw⟩
  obtain ⟨B, h1, h2⟩ := A1.still nx
  split at k
  · rename_i c' fs ds ex
    obtain ⟨rfl, k2⟩ := k
    rw [ex] at h1
    have h0 := h1
    cases h1 with
    | ins hp hl hv =>
      refine ⟨_, _, _, rfl, by rw [← hK]; exact h2.hi _ _ hp, ?_⟩
      rw [← hK]
      refine ⟨G.so, B, [.ins c' fs ds], rfl, h2.hi, h2.st, .cons h0 .nil, hW (fun z k nz v H' q => ?_) (fun _ z => z.elim) k2⟩
      obtain ⟨B', q⟩ := q
      exact k nz l v H' ⟨A1.len, B', by rw [← List.append_assoc]; exact h2.after q⟩
  · exact k.elim
end
end DL
set_option Elab.async false
set_option maxRecDepth 100000
set_option maxHeartbeats 4000000
set_option linter.unusedVariables false
/-! data-level layer, part n: an own class's instance made -/
namespace DL
open PySem PySem.Spec PyProof.Rows L2 NdefX
/-- a heap without one object -/
def cut (H : Hp) (a : Addr) : Hp := fun b => if b = a then none else H b
theorem cut_ne {H : Hp} {a b : Addr} (h : b ≠ a) : cut H a b = H b := if_neg h
theorem cut_eq {H : Hp} {a : Addr} : cut H a a = none := if_pos rfl
/-- less is told of the entry -/
theorem Rel.less {K : PySem.W.Frag} {so : Option Addr} {B0 H0 H0' : Hp} {E : L2.St → XK} {R : Roots} {H B : Hp} (h : Rel ⟨K, so, B0, H0', E⟩ R H B) (k : ∀ b o, H0 b = some o → H0' b = some o) : Rel ⟨K, so, B0, H0, E⟩ R H B :=
  ⟨h.lo, h.hi, fun a o e n => h.fr a o (k a o e) n, fun a xs e n => h.nw a xs e (by
    cases q : H0 a with
    | none => exact absurd q n
    | some o => show H0' a ≠ none; rw [k a o q]; exact Option.some_ne_none _), h.rep, h.nd, (fun p hp => by
    obtain ⟨a1, a2, a3⟩ := h.ap p hp
    refine ⟨a1, ?_, a3⟩
    cases q : H0 p with
    | none => exact q
    | some o =>
      have a2' : H0' p = none := a2
      rw [k p o q] at a2'
      cases a2'), h.st⟩
/-- what an __init__ is handed, and what it leaves: the instance at a -/
def spI (K : PySem.W.Frag) (C : Addr) (n : Nat) (W : DW1) : Sp := fun vs H Q E => ∃ (a dx : Addr) (us : List V) (so : Option Addr) (B : Hp) (ds : List D), vs = .ref a :: us ∧ H a = some (.ins C dx []) ∧ B a = none ∧ so ≠ some a ∧ ds.length = n ∧ Same B H ∧
  (∀ s, so = some s → B s = none ∧ StoreAt K B H s) ∧ Rps K so B us ds ∧
  W ds (fun z => z ≠ .un → ∀ H', RelE ⟨K, so, B, cut H a, fun _ => E⟩ [(some (.ref a), z)] H' → Q .non H') (fun e => ∀ B' cls d H', Rel ⟨K, so, B, cut H a, fun _ => E⟩ [] H' B' → RepX K so B' cls d e → E cls d H')
/-- a class that is called by its name -/
structure FDi (P : Program) (w : World) (K : PySem.W.Frag) (mg : Str → Option Value) (base : Heap) (k : Nat) (c : Str) (n : Nat) (W : DW1) : Prop where
  mono : MonoW W
  ex : ∃ (f : Addr) (fd : FuncData) (ps : List Str), mg c = some (.ref (He.ga K c)) ∧ Mk K (He.ga K c) f ∧ FnOk P w K mg base (L2N.CX P w) k f fd ps (spI K (He.ga K c) n W) ∧ Binds K fd ps []
section
variable {G : Gx} {X : Cx} {e : Expr} {es : List Expr} {wr : DT (List Sl)} {p pos : Pos} {c : Str} {k n : Nat} {W : DW1}
theorem de_make (F : FDi X.prog X.w X.K X.mg X.base k c n W) (hr : Room (k + 1) X.A) (hK : G.K = X.K) (tk : L2N.Takes X fun cls d σ H => G.EX σ cls d H) (hE : ∀ σ σ' : St, G.EX σ = G.EX σ') (ha : DA G X (e :: es) wr) (hn : es.length + 1 = n := by rfl) (hg : Gl X c := by rfl)
    (hdb : (c == ("__debug__" : Str)) = false := by decide) (he : starEach (e :: es) X.env = (false, eval e X.env) :: starEach es X.env := by rfl) (hpl : (backTo pos (starEach es X.env)).any (·.1) = false := by rfl) : DE G X (.Call (.Name c p) (e :: es) [] pos) (wCall W wr) := by
  obtain ⟨hW, f, fd, ps, hm, hM, hF, hB⟩ := F
  have tk' : L2N.Takes X fun cls d _ H => G.EX [] cls d H := tk.imp fun c d σ H h => by rw [hE σ []]; exact h
  refine ⟨wCall_mono hW ha.mono, pe_weak (pe_make (E := G.EX []) (dvs := []) hM hF hr hg hm hB .nil (L2N.passes_call tk' fun _ _ _ _ h => h) ha.pa hdb he hpl) fun σ H Q h => ?_⟩
  obtain ⟨ρ, τ, hA, hw⟩ := h
  refine ⟨ρ, τ, hA, ha.mono (fun xs ρ1 k nxs ln l vs H1 lv A1 => ?_) (fun _ _ e => e) hw⟩
  obtain ⟨B, h1, h2⟩ := A1.stills lv nxs
  intro x dx hx hdx hne
  rw [List.append_nil]
  have s1 : Same H1 (upd (upd H1 dx (.own x)) x (.ins (He.ga X.K c) dx [])) := by
    refine (same_upd hdx).trans (same_upd ?_)
    rw [upd_ne (Ne.symm hne)]; exact hx
  have cutS : ∀ b o, H1 b = some o → cut (upd (upd H1 dx (.own x)) x (.ins (He.ga X.K c) dx [])) x b = some o := fun b o e => by
    have : b ≠ x := fun z => by rw [z, hx] at e; cases e
    rw [cut_ne this]; exact s1 b o e
  rw [← hK]
  refine ⟨x, dx, vs, G.so, B, datas xs, rfl, by rw [hK]; exact upd_same .., h2.free hx, fun z => ?_, by unfold datas; rw [List.length_map, ln]; exact hn, h2.hi.trans (by rw [hK]; exact s1), fun s es => ?_, h1, ?_⟩
  · obtain ⟨ys, hy⟩ := h2.store_some z
    rw [hx] at hy; cases hy
  · obtain ⟨t1, t2⟩ := h2.st s es
    refine ⟨t1, t2.mono (Same.refl _) ?_⟩
    obtain ⟨ys, hy⟩ := h2.store_some es
    rw [hy, hK]
    exact s1 _ _ hy
  · refine hW (fun z q nz H' r => ⟨rfl, ?_⟩) (fun e q B' cls d H' r hx2 => ?_) k
    · obtain ⟨B', r⟩ := r
      refine q nz l _ H' ⟨A1.len, B', ?_⟩
      rw [← List.append_assoc]
      exact h2.after (r.less (by rw [hK]; exact cutS))
    · have r2 := h2.after0 (r.less (by rw [hK]; exact cutS))
      have := q σ cls d H' B' A1.len r2 hx2
      rw [hE [] σ]; exact this
end

/-! ### a class's __init__ -/
/-- a word for the object that is being made -/
def oe0 (K : PySem.W.Frag) (c : Str) : Obj := ⟨.ref (He.ga K c), none, .fields #[.none, .none, .none], #[]⟩
def selfD (K : PySem.W.Frag) (c : Str) (a : Addr) : D := .exc c none a (oe0 K c)
theorem self_rp {K : PySem.W.Frag} {so : Option Addr} {B : Hp} {c : Str} {a : Addr} : Rp K so B (.ref a) (selfD K c a) :=
  .exn ⟨rfl, rfl, fun vs e => by cases e; rfl⟩ ⟨_, rfl⟩
theorem self_of {K : PySem.W.Frag} {so : Option Addr} {B : Hp} {c : Str} {a : Addr} {v : V} (h : Rp K so B v (selfD K c a)) : v = .ref a := by
  unfold selfD at h
  cases h; rfl
theorem Rel.step {G : Gx} {E : L2.St → XK} {R R' : Roots} {H B H' B' : Hp} (h : Rel G R H B) (k : Rel ⟨G.K, G.so, B, H, E⟩ R' H' B') : Rel G R' H' B' :=
  ⟨h.lo.trans k.lo, k.hi, fun a o e n => k.fr a o (h.fr a o e n) n, fun a xs e n => by
    by_cases hs : G.so = some a
    · have := (k.st a hs).1
      rw [e] at this; cases this
    · cases z : G.H0 a with
      | none => exact absurd z n
      | some o =>
        have e1 := h.fr a o z hs
        have e2 : B a ≠ none := k.nw a xs e (by show H a ≠ none; rw [e1]; exact Option.some_ne_none _)
        cases q : B a with
        | none => exact absurd q e2
        | some u => exact h.nw a u q n, k.rep, k.nd, (fun p hp => by
    obtain ⟨a1, a2, a3⟩ := k.ap p hp
    refine ⟨a1, ?_, a3⟩
    cases q : G.H0 p with
    | none => rfl
    | some o =>
      have := h.fr p o q a3
      have a2' : H p = none := a2
      rw [a2'] at this; cases this), k.st⟩
theorem feet_still {σ : St} {ρ : DEnv} (h : ∀ x ∈ ρ, StillS x) : feet (σ.zip ρ) = [] := feet_none fun r hr => by
  obtain ⟨r1, r2⟩ := r
  show r2.foot = []
  rcases h r2 (List.of_mem_zip hr).2 with e | ⟨d, e⟩ <;> (rw [e]; rfl)
/-- the object at a as far as it is made -/
structure InI (G : Gx) (a dx C : Addr) (fs : List Str) (ds : List D) (σ : St) (ρ : DEnv) (H : Hp) : Prop where
  len : ρ.length = σ.length
  still : ∀ x ∈ ρ, StillS x
  ex : ∃ B vs, Rel G (σ.zip ρ) H B ∧ B a = none ∧ H a = some (.ins C dx (fs.zip vs)) ∧ fs.length = vs.length ∧ Rps G.K G.so B vs ds
abbrev DIb := Addr → List Str → List D → DEnv → (List Str → List D → Prop) → (Er → Prop) → Prop
def xI (G : Gx) : Er → Prop := fun e => ∀ B' cls d H', Rel G [] H' B' → RepX G.K G.so B' cls d e → ∀ σ, G.EX σ cls d H'
def tI (G : Gx) (a dx C : Addr) (w : DIb) : TS := fun D σ H => ∃ ρ fs ds, InI G a dx C fs ds σ ρ H ∧ w a fs ds ρ (fun fs ds => ∀ σ' H' ρ', InI G a dx C fs ds σ' ρ' H' → D.nx σ' H') (xI G)
def iEnd : DIb := fun _ fs ds _ Q _ => Q fs ds
def iStm (w : DS) (r : DIb) : DIb := fun a fs ds ρ Q E => w ⟨fun ρ' => (∀ x ∈ ρ', StillS x) ∧ r a fs ds ρ' Q E, fun _ _ => False, fun _ => False, fun _ => False⟩ ρ (fun e _ => E e)
def iFld (K : PySem.W.Frag) (c f : Str) (we : DT Sl) (r : DIb) : DIb := fun a fs ds ρ Q E => we ρ (fun x ρ' => (∀ x ∈ ρ', StillS x) ∧ ρ'[0]? = some (.sh (selfD K c a)) ∧ f ∉ fs ∧ fs.length < 1000 ∧ r a (fs ++ [f]) (ds ++ [x.dat]) ρ' Q E) (fun e _ => E e)
theorem putF_new {f : Str} {v : V} : ∀ {fs : List Str} {vs : List V}, fs.length = vs.length → f ∉ fs → putF f v (fs.zip vs) = (fs ++ [f]).zip (vs ++ [v])
  | [], [], _, _ => rfl
  | g :: fs, u :: vs, l, h => by
    have : ¬ g = f := fun e => h (e ▸ List.mem_cons_self)
    show (if g = f then _ else _) = _
    rw [if_neg this]
    show (g, u) :: putF f v (fs.zip vs) = _
    rw [putF_new (by simpa using l) fun z => h (List.mem_cons_of_mem _ z)]
    rfl
  | [], _ :: _, l, _ => by cases l
  | _ :: _, [], l, _ => by cases l
section
variable {G : Gx} {X : Cx} {a dx C : Addr} {st : Stmt} {rest : List Stmt} {w : DS} {r : DIb}
theorem in_end : PSs X [] (tI G a dx C iEnd) := pss_weak pss_nil fun D σ H h => by
  obtain ⟨ρ, fs, ds, hI, hw⟩ := h
  exact hw σ H ρ hI
theorem in_stm (hs : ∀ B H, DSt ⟨G.K, G.so, B, H, G.EX⟩ X st w) (hso : G.so ≠ some a) (hr : PSs X rest (tI G a dx C r)) : PSs X (st :: rest) (tI G a dx C (iStm w r)) := by
  refine ⟨fun pins s σ H D I h => ?_⟩
  obtain ⟨ρ, fs, ds, ⟨l, still, B, vs, r0, b0, h0, lf, hv⟩, hw⟩ := h
  have d := hs B H
  refine (pss_cons d.ps hr).run pins s σ H D I ?_
  have re : Rel ⟨G.K, G.so, B, H, G.EX⟩ (σ.zip ρ) H B := Rel.entry r0.hi r0.rep (feet_still still) r0.st
  refine ⟨ρ, [], ⟨l, B, by rw [List.append_nil]; exact re⟩, d.mono hw ⟨fun ρ' ⟨k1, k2⟩ _ σ' H' A' => ?_, fun _ _ z => z.elim, fun _ z => z.elim, fun _ z => z.elim⟩ fun e ρ' k σ1 cls d1 H1 B1 _ r1 hx => ?_⟩
  · obtain ⟨B', r'⟩ := A'.rel
    rw [List.append_nil] at r'
    have hfa : H' a = some (.ins C dx (fs.zip vs)) := r'.fr a _ h0 hso
    refine ⟨ρ', fs, ds, ⟨A'.len, k1, B', vs, r0.step r', ?_, hfa, lf, hv.mono r'.lo⟩, k2⟩
    cases q : B' a with
    | none => rfl
    | some o => exact absurd b0 (r'.nw a o q (by show H a ≠ none; rw [h0]; exact Option.some_ne_none _))
  · rw [List.append_nil] at r1
    have r2 := r0.step r1
    exact k B1 cls d1 H1 (r2.sub (fun _ z => by cases z) (by rw [feet_nil]; exact List.nodup_nil)) hx σ1
theorem in_fld {c f self : Str} {e : Expr} {we : DT Sl} {p p1 p2 : Pos} (hC : Cls X.K C) (hf : NoAttr X.K C f) (he : ∀ B H, DE ⟨G.K, G.so, B, H, G.EX⟩ X e we) (hso : G.so ≠ some a) (hcut : G.H0 a = none) (hN : X.N[0]? = some self) (hv : Vis X.env.scope self)
    (hs : swapsWith e (some (.Attribute (.Name self p) f p1)) p2.line X.env = pure false) (hr : PSs X rest (tI G a dx C r)) (hd : (self == ("__debug__" : Str)) = false := by decide) (hcd : (self == ("__classdict__" : Str)) = false := by decide) :
    PSs X (.Assign [.Attribute (.Name self p) f p1] e p2 :: rest) (tI G a dx C (iFld G.K c f we r)) := by
  refine ⟨fun pins s σ H D I h => ?_⟩
  obtain ⟨ρ, fs, ds, ⟨l, still, B, vs, r0, b0, h0, lf, hv0⟩, hw⟩ := h
  have d := he B H
  refine (pss_cons (ps_fld (pe_var (i := 0) hN hv hd hcd) d.pe hs) hr).run pins s σ H D I ?_
  have re : Rel ⟨G.K, G.so, B, H, G.EX⟩ (σ.zip ρ) H B := Rel.entry r0.hi r0.rep (feet_still still) r0.st
  refine ⟨ρ, [], ⟨l, B, by rw [List.append_nil]; exact re⟩, d.mono (fun x ρ1 k nx l1 v H1 A1 => ?_) (fun e ρ' k σ1 cls d1 H1 B1 _ r1 hx => ?_) hw⟩
  · obtain ⟨k1, k2, k3, k4, k5⟩ := k
    obtain ⟨B1, h1, h2⟩ := A1.still nx
    rw [List.append_nil] at h2
    have r1 := r0.step h2
    have hfa : H1 a = some (.ins C dx (fs.zip vs)) := h2.fr a _ h0 hso
    have b1 : B1 a = none := by
      cases q : B1 a with
      | none => rfl
      | some o => exact absurd b0 (h2.nw a o q (by show H a ≠ none; rw [h0]; exact Option.some_ne_none _))
    obtain ⟨L, R, u, e1, e2, _⟩ := zip_split A1.len k2
    have z := h2.rep (u, .sh (selfD G.K c a)) (by rw [e2]; simp)
    cases u with
    | none => exact z.elim
    | some u =>
      obtain rfl := self_of (show Rp G.K G.so B1 u (selfD G.K c a) from z)
      refine ⟨.ref a, e1, a, C, dx, _, rfl, hfa, hC, hf, ?_, ?_⟩
      · rw [List.length_zip]; omega
      · rw [putF_new lf k3]
        refine ⟨ρ1, fs ++ [f], ds ++ [x.dat], ⟨A1.len, k1, B1, vs ++ [v], ?_, b1, upd_same .., by simp [lf], (hv0.mono h2.lo).append (.cons h1 .nil)⟩, k5⟩
        have ft := feet_still (σ := σ) k1
        refine ⟨r1.lo, fun b o q => ?_, fun b o q n => ?_, r1.nw, fun q hq => ?_, r1.nd, r1.ap, fun s es => ?_⟩
        · have : b ≠ a := fun z => by rw [z, b1] at q; cases q
          rw [upd_ne this]; exact r1.hi b o q
        · have : b ≠ a := fun z => by rw [z, hcut] at q; cases q
          rw [upd_ne this]; exact r1.fr b o q n
        · refine (r1.rep q hq).mono (Same.refl _) fun p hp => ?_
          have := mem_feet hq hp
          rw [ft] at this; cases this
        · obtain ⟨t1, t2⟩ := r1.st s es
          refine ⟨t1, t2.mono (Same.refl _) (upd_ne fun z => hso (z ▸ es))⟩
  · rw [List.append_nil] at r1
    have r2 := r0.step r1
    exact k B1 cls d1 H1 (r2.sub (fun _ z => by cases z) (by rw [feet_nil]; exact List.nodup_nil)) hx σ1
end

def MonoIb (w : DIb) : Prop := ∀ ⦃a fs ds ρ Q Q' E E'⦄, (∀ fs ds, Q fs ds → Q' fs ds) → (∀ e, E e → E' e) → w a fs ds ρ Q E → w a fs ds ρ Q' E'
theorem iEnd_mono : MonoIb iEnd := fun _ _ _ _ _ _ _ _ hq _ h => hq _ _ h
theorem iStm_mono {w : DS} {r : DIb} (hw : MonoS w) (hr : MonoIb r) : MonoIb (iStm w r) := fun _ _ _ _ _ _ _ _ hq he h => hw h ⟨fun _ k => ⟨k.1, hr hq he k.2⟩, fun _ _ z => z, fun _ z => z, fun _ z => z⟩ fun e _ k => he e k
theorem iFld_mono {K : PySem.W.Frag} {c f : Str} {we : DT Sl} {r : DIb} (hw : Mono we) (hr : MonoIb r) : MonoIb (iFld K c f we r) := fun _ _ _ _ _ _ _ _ hq he h => hw (fun x ρ k => ⟨k.1, k.2.1, k.2.2.1, k.2.2.2.1, hr hq he k.2.2.2.2⟩) (fun e _ k => he e k) h
section
variable {P : Program} {w : World} {K : PySem.W.Frag} {mg : Str → Option Value} {base : Heap} {x qual c : Str} {params : Arguments} {body : List Stmt} {scope : Scope} {f : Addr} {fd : FuncData}
theorem fdi_ok {N ps : List Str} {k n : Nat} {W : DW1} (hW : MonoW W) (hm : mg c = some (.ref (He.ga K c))) (M : Mk K (He.ga K c) f) (F : FunD K x qual params body scope [] [] f fd) (S : FnScope N ps scope) (hps : ps.length = n + 1) (hlen : ∀ ds Q E, W ds Q E → ds.length = n)
    (hbd : ∀ (kV doc pm : Value) (an : Option Addr) (cdv ct : Value) (us : List Value), us.length = ps.length → bindArgs (PySem.W.fnOf x qual params body scope .none kV doc pm an cdv ct) ⟨us, []⟩ = pure (ps.zip us))
    (hb : ∀ (cdv : Value) (A : Around) (outer : List Env) (s : Shared) (H : Hp) (E : XK), Room k (A.deeper (envOfC qual scope s.heap.objs.size f cdv)) →
      L2N.Takes (cxD P w K mg base N qual scope f cdv A outer s H E) (fun cls d _ H => E cls d H) →
      ∃ wb : DIb, MonoIb wb ∧ (∀ (so : Option Addr) (B H0 : Hp) (a dx : Addr), so ≠ some a → H0 a = none → PSs (cxD P w K mg base N qual scope f cdv A outer s H E) body (tI ⟨K, so, B, H0, fun _ => E⟩ a dx (He.ga K c) wb)) ∧
        ∀ a ds Q E', W ds Q E' → wb a [] [] (entry N.length (selfD K c a :: ds)) (fun fs ds => Q (.sh (.ins c fs ds))) E') :
    FDi P w K mg base (k + 1) c n W := by
  refine ⟨hW, f, fd, ps, hm, M, ?_, F.bindsN hbd⟩
  refine F.ok S (fun vs H Q E h => ?_) (fun cdv A outer s H vs Q E hr h => ?_)
  · obtain ⟨a, dx, us, so, B, ds, rfl, _, _, _, ln, _, _, hv, _⟩ := h
    rw [List.length_cons, hv.len, ln, hps]
  · obtain ⟨a, dx, us, so, B, ds, rfl, h0, b0, hso, ln, e, st, hv, hw⟩ := h
    obtain ⟨wb, mo, hp, hq⟩ := hb cdv A outer s H E hr (L2N.takes_of rfl rfl rfl rfl)
    refine ⟨_, hp so B (cut H a) a dx hso cut_eq, entry N.length (selfD K c a :: ds), [], [], ⟨start_entry (by rw [List.length_cons, List.length_cons, hv.len]), fun y hy => ?_, B, [], ?_, b0, h0, rfl, .nil⟩, mo (fun fs ds k σ' H' ρ' hI => ?_) (fun e k B' cls d H' r hx σ => k B' cls d H' r hx) (hq a ds _ _ hw)⟩
    · unfold entry at hy
      rcases List.mem_append.mp hy with hy | hy
      · obtain ⟨d, _, e⟩ := List.mem_map.mp hy; exact .inr ⟨d, e.symm⟩
      · exact .inl (List.mem_replicate.mp hy).2
    · have hv2 : Rps K so B (V.ref a :: us) (selfD K c a :: ds) := .cons self_rp hv
      have r0 : Rel ⟨K, so, B, H, fun _ => E⟩ ((L2.start N (V.ref a :: us)).zip (entry N.length (selfD K c a :: ds))) H B := by
        refine Rel.entry e (fun q hq => ?_) (feet_still fun y hy => ?_) st
        · obtain ⟨i, hi⟩ := List.getElem?_of_mem hq
          rw [List.getElem?_zip_eq_some] at hi
          unfold L2.start entry at hi
          obtain ⟨q1, q2⟩ := q
          simp only [] at hi
          by_cases hl : i < (selfD K c a :: ds).length
          · have lv := hv2.len
            rw [List.getElem?_append_left (by simpa using (by omega : i < (V.ref a :: us).length)), List.getElem?_append_left (by simpa using hl), List.getElem?_map, List.getElem?_map] at hi
            obtain ⟨a1, a2⟩ := hi
            rw [Option.map_eq_some_iff] at a1 a2
            obtain ⟨v, g1, rfl⟩ := a1
            obtain ⟨d, g2, rfl⟩ := a2
            obtain ⟨v', g3, g4⟩ := hv2.get g2
            rw [g1] at g3
            cases g3
            exact g4
          · have a2 := hi.2
            rw [List.getElem?_append_right (by simpa using hl)] at a2
            have := (List.mem_replicate.mp (List.mem_of_getElem? a2)).2
            rw [this]
            cases q1 <;> trivial
        · unfold entry at hy
          rcases List.mem_append.mp hy with hy | hy
          · obtain ⟨d, _, e⟩ := List.mem_map.mp hy; exact .inr ⟨d, e.symm⟩
          · exact .inl (List.mem_replicate.mp hy).2
      exact r0.less fun b o q => by
        by_cases hb : b = a
        · subst hb; rw [cut_eq] at q; cases q
        · rw [cut_ne hb] at q; exact q
    · obtain ⟨l, still, B', vs, r, b', h', lf, hv'⟩ := hI
      refine k (fun z => by cases z) H' ⟨upd B' a (.ins (He.ga K c) dx (fs.zip vs)), ?_⟩
      have sB : Same B' (upd B' a (.ins (He.ga K c) dx (fs.zip vs))) := same_upd b'
      refine ⟨r.lo.trans sB, fun b o q => ?_, r.fr, fun b o q nn => ?_, fun q hq => ?_, by rw [feet_one]; exact List.nodup_nil, (fun p hp => by rw [feet_one] at hp; cases hp), fun s es => ?_⟩
      · by_cases hb : b = a
        · subst hb; rw [upd_same] at q; cases q; exact h'
        · rw [upd_ne hb] at q; exact r.hi b o q
      · by_cases hb : b = a
        · subst hb; exact absurd cut_eq nn
        · rw [upd_ne hb] at q; exact r.nw b o q nn
      · have eq : q = (some (.ref a), .sh (.ins c fs ds)) := by simpa using hq
        subst eq
        exact .ins (upd_same ..) lf (hv'.mono sB)
      · obtain ⟨t1, t2⟩ := r.st s es
        have : s ≠ a := fun z => hso (z ▸ es)
        exact ⟨by rw [upd_ne this]; exact t1, t2.mono sB rfl⟩
end
end DL
set_option Elab.async false
set_option maxRecDepth 100000
set_option maxHeartbeats 4000000
set_option linter.unusedVariables false
/-! data-level layer, part o: isinstance with a pair of built-in types -/
namespace DL
open PySem PySem.Spec PyProof.Rows L2 NdefX
/-- no error -/
def NoExc : D → Bool
  | .exc _ _ _ _ => false
  | _ => true
section
variable {K : PySem.W.Frag} {so : Option Addr} {B H : Hp} {v : V} {d : D}
theorem isi_two {u1 u2 : Value} {b1 b2 : Bool} (e : Same B H) (h : Rp K so B v d) (n : NoExc d = true) (k1 : Isi K d u1 b1) (k2 : Isi K d u2 b2) : ∃ t, TyX K H v t ∧ PySem.W.kitOne K t u1 = some b1 ∧ PySem.W.kitOne K t u2 = some b2 := by
  cases d with
  | exc c a p oe => cases n
  | ins c fs ds =>
    obtain ⟨z, h1⟩ := k1
    obtain ⟨_, h2⟩ := k2
    cases h with
    | ins hp hl hr => exact ⟨_, .base (.ins (e _ _ hp) z.cl z.ha z.hn z.ht z.hm), h1, h2⟩
  | _ =>
    obtain ⟨t, g1, h1⟩ := k1
    obtain ⟨t', g2, h2⟩ := k2
    rw [g1] at g2
    cases g2
    exact ⟨_, tyx_of e h g1, h1, h2⟩
end
/-- either of two answers -/
def orF (f g : D → Option Bool) : D → Option Bool := fun d => if NoExc d then (match f d, g d with | some a, some b => some (a || b) | _, _ => none) else none
section
variable {G : Gx} {X : Cx} {a : Expr} {wa : DT Sl} {p q1 q2 tpos pos : Pos}
theorem de_isi2 {T1 T2 : Str} {n1 n2 : String} {f1 f2 : D → Option Bool} {x1 : Nat} (hK : G.K = X.K) (hm : X.mg "isinstance" = none) (hT1 : X.mg T1 = none) (hb1 : bootBuiltins T1 = some (.type n1)) (hT2 : X.mg T2 = none) (hb2 : bootBuiltins T2 = some (.type n2))
    (hf1 : ∀ d b, f1 d = some b → Isi G.K d (.type n1) b) (hf2 : ∀ d b, f2 d = some b → Isi G.K d (.type n2) b) (ha : DE G X a wa) (hg : Gl X "isinstance" := by rfl) (hgT1 : Gl X T1 := by rfl) (hgT2 : Gl X T2 := by rfl)
    (hn1 : T1 ≠ "__name__" := by decide) (hd1 : (T1 == ("__debug__" : Str)) = false := by decide) (hn2 : T2 ≠ "__name__" := by decide) (hd2 : (T2 == ("__debug__" : Str)) = false := by decide)
    (s1 : starEach [Expr.Name T1 q1, Expr.Name T2 q2] X.env = (false, eval (Expr.Name T1 q1) X.env) :: starEach [Expr.Name T2 q2] X.env := by rfl) (s2 : starEach [Expr.Name T2 q2] X.env = (false, eval (Expr.Name T2 q2) X.env) :: starEach [] X.env := by rfl)
    (he : starEach [a, .Tuple [.Name T1 q1, .Name T2 q2] x1 tpos] X.env = (false, eval a X.env) :: starEach [.Tuple [.Name T1 q1, .Name T2 q2] x1 tpos] X.env := by rfl)
    (he2 : starEach [.Tuple [.Name T1 q1, .Name T2 q2] x1 tpos] X.env = (false, eval (.Tuple [.Name T1 q1, .Name T2 q2] x1 tpos) X.env) :: starEach [] X.env := by rfl)
    (hpl : (backTo pos (starEach [.Tuple [.Name T1 q1, .Name T2 q2] x1 tpos] X.env)).any (·.1) = false := by rfl) :
    DE G X (.Call (.Name "isinstance" p) [a, .Tuple [.Name T1 q1, .Name T2 q2] x1 tpos] [] pos) (wIsi (orF f1 f2) [] wa) := by
  refine ⟨wIsi_mono ha.mono, pe_weak (pe_callB call_isiT hg hm (by decide +kernel) (pa_cons ha.pe (pa_cons (pe_tup (pa_cons (pe_bltn (v := .ty n1) hgT1 hT1 hb1 rfl hn1 hd1) (pa_cons (pe_bltn (v := .ty n2) hgT2 hT2 hb2 rfl hn2 hd2) pa_nil s2) s1)) pa_nil he2) he) (he := he) (hpl := hpl)) fun σ H Q h => ?_⟩
  obtain ⟨ρ, τ, hA, hw⟩ := h
  refine ⟨ρ, τ, hA, ha.mono (fun x ρ1 k nx l v H1 A1 => ?_) (fun _ _ e => e) hw⟩
  obtain ⟨B, h1, h2⟩ := A1.still nx
  split at k
  · rename_i b e
    unfold orF at e
    split at e
    · rename_i hn
      split at e
      · rename_i a1 a2 e1 e2
        cases e
        refine ⟨by rw [sizeLine_eq]; show 2 ≤ 16777216; decide, fun tp htp => ?_⟩
        have e3 : Same B (upd H1 tp (.tup [.ty n1, .ty n2])) := h2.hi.trans (same_upd htp)
        obtain ⟨t, g1, g2, g3⟩ := isi_two e3 h1 hn (hf1 _ _ e1) (hf2 _ _ e2)
        refine ⟨v, tp, [.ty n1, .ty n2], t, [.type n1, .type n2], a1 || a2, rfl, upd_same .., .cons (.ty n1) (.cons (.ty n2) .nil), hK ▸ g1, kitAny_cons (hK ▸ g2) (fun z => kitAny_cons (hK ▸ g3) (fun z2 => by rw [z, z2]; exact kitAny_nil) (fun z2 => by rw [z2, Bool.or_true])) (fun z => by rw [z, Bool.true_or]), ?_⟩
        refine k.2 (fun z => by cases z) l _ _ ?_
        obtain ⟨B', r'⟩ : RelE G (σ.zip ρ1 ++ τ) (upd H1 tp (.tup [.ty n1, .ty n2])) := ⟨_, h2.newH htp⟩
        exact At.addSh A1.len r' (.bl _)
      · cases e
    · cases e
  · exact k.elim
end
end DL
set_option Elab.async false
set_option maxRecDepth 100000
set_option maxHeartbeats 4000000
set_option linter.unusedVariables false
/-! data-level layer, part Me: a def that spoils the lists of what it is handed -/
namespace DL
open PySem PySem.Spec PyProof.Rows L2 NdefX
/-- a tree whose lists nobody else looks at -/
structure Ow1 (K : PySem.W.Frag) (B H : Hp) (v : V) (d : D) (F : List Addr) : Prop where
  hi : Same B H
  t : Dpr K none B H v d F
  nd : F.Nodup
  fr : ∀ p ∈ F, B p = none
/-- what may be handed to it; o: instances of Table among it -/
def plX (o : Bool) : Nat → D → Bool
  | 0, _ => false
  | _ + 1, .non => true
  | _ + 1, .bl _ => true
  | _ + 1, .int _ => true
  | _ + 1, .str _ => true
  | _ + 1, .dic ks ds => okDc ks ds
  | n + 1, .lst l => decide (l.length ≤ 100000) && l.all (plX o n)
  | n + 1, .tup l => decide (l.length ≤ 100000) && l.all (plX o n)
  | n + 1, .ins c _ l => o && (c == "Table" && l.all (plX o n))
  | _ + 1, _ => false
/-- what is known of the class Table -/
structure TabF (K : PySem.W.Frag) : Prop where
  ink : InK K (He.ga K "Table")
  lst : PySem.W.kitOne K (.ref (He.ga K "Table")) (.type "list") = some false
  tup : PySem.W.kitOne K (.ref (He.ga K "Table")) (.type "tuple") = some false
/-- all but F is as it was -/
def Kp (F : List Addr) (H H' : Hp) : Prop := ∀ a o, a ∉ F → H a = some o → H' a = some o
theorem Kp.trans {F : List Addr} {H H1 H2 : Hp} (h : Kp F H H1) (k : Kp F H1 H2) : Kp F H H2 := fun a o n e => k a o n (h a o n e)
theorem Kp.sub {F F' : List Addr} {H H1 : Hp} (h : Kp F H H1) (s : ∀ a ∈ F, a ∈ F') : Kp F' H H1 := fun a o n e => h a o (fun z => n (s a z)) e
theorem Kp.of {F : List Addr} {H H1 : Hp} (h : Same H H1) : Kp F H H1 := fun a o _ e => h a o e
def spS (K : PySem.W.Frag) (ob : Bool) (n : Nat) : Sp := fun vs H Q _ => ∃ v B d F, vs = [v] ∧ Ow1 K B H v d F ∧ plX ob n d = true ∧ ∀ H', Kp F H H' → Q .non H'
/-- the def that spoils, n levels deep -/
structure FDx (P : Program) (w : World) (K : PySem.W.Frag) (mg : Str → Option Value) (base : Heap) (k : Nat) (x : Str) (ob : Bool) (n : Nat) : Prop where
  ex : ∃ (f : Addr) (fd : FuncData) (ps : List Str), mg x = some (.ref f) ∧ PySem.W.keepIn K (.ref f) = true ∧ FnOk P w K mg base (L2N.CX P w) k f fd ps (spS K ob n) ∧ Binds K fd ps []
section
variable {K : PySem.W.Frag} {B H : Hp} {v : V} {F : List Addr} {ds : List D}
theorem Ow1.lst (h : Ow1 K B H v (.lst ds) F) : ∃ p vs F', v = .ref p ∧ F = p :: F' ∧ H p = some (.lst vs) ∧ Dprs K none B H vs ds F' := by
  have t := h.t
  cases t with
  | leaf h1 h2 => cases h2
  | lst h1 h2 => exact ⟨_, _, _, rfl, rfl, h1, h2⟩
theorem Ow1.tup (h : Ow1 K B H v (.tup ds) F) : ∃ p vs, v = .ref p ∧ SqT K B p vs ∧ Dprs K none B H vs ds F := by
  have t := h.t
  cases t with
  | leaf h1 h2 =>
    cases h1 with
    | tup q r => exact ⟨_, _, rfl, q, r.dprs h2⟩
  | tup h1 h2 => exact ⟨_, _, rfl, h1, h2⟩
theorem Dprs.len {vs : List V} : ∀ {ds : List D} {F : List Addr}, Dprs K none B H vs ds F → vs.length = ds.length := by
  induction vs with
  | nil => intro ds F h; cases h; rfl
  | cons v vs ih => intro ds F h; cases h with | cons _ r => rw [List.length_cons, List.length_cons, ih r]
end
/-- a test of the handed value's kind -/
def tTst (K : PySem.W.Frag) (f : D → Option Bool) (pn : List (Addr × Obj)) : TT := fun σ H Q => ∃ v B d F b, σ[0]? = some (some v) ∧ σ.length = 2 ∧ Ow1 K B H v d F ∧ f d = some b ∧ PinD pn d ∧ ∀ H', Same H H' → Q b H'
section
variable {X : Cx} {e : Expr} {f : D → Option Bool}
theorem pt_tst (h : ∀ G : Gx, G.K = X.K → DB G X e (wTest (wIsi f X.pn (wVar 0)))) : PT X e (tTst X.K f X.pn) := by
  refine ⟨fun pins s σ H Q I h1 => ?_⟩
  obtain ⟨v, B, d, F, b, h0, hl, o, hf, hp, q⟩ := h1
  have hj : Same (join B (part H F)) H := fun a o1 e => by
    by_cases ha : a ∈ F
    · rw [join_r (o.fr a ha), part_in ha] at e; exact e
    · have : join B (part H F) a = B a := by
        unfold join; rw [part_out ha]; cases B a <;> rfl
      rw [this] at e; exact o.hi a o1 e
  have rd : Rp X.K none (join B (part H F)) v d := o.t.still (join_l _ _) fun p hp xs e => by rw [join_r (o.fr p hp), part_in hp]; exact e
  match σ, hl, h0, I with
  | [a, u], _, h0, I =>
    have h0' : a = some v := by simpa using h0
    subst h0'
    refine (h ⟨X.K, none, join B (part H F), H, fun _ _ _ _ => True⟩ rfl).pt.run pins s _ H Q I ⟨[.sh d, .un], [], ⟨rfl, _, Rel.entry hj (fun r hr => ?_) rfl fun s z => by cases z⟩, ?_⟩
    · rcases List.mem_cons.mp hr with rfl | hr
      · exact rd
      · have : r = (u, .un) := by simpa using hr
        subst this
        cases u <;> trivial
    · show wIsi f X.pn (wVar 0) _ _ _
      unfold wIsi
      show (match f d with | some b => _ | none => False)
      rw [hf]
      refine ⟨hp, fun _ H' A' => q H' fun a o1 e => ?_⟩
      obtain ⟨B', r'⟩ := A'.rel
      exact r'.fr a o1 e fun z => by cases z
end
section
variable {X : Cx} {t1 t2 : Expr} {it : Str} {n k : Nat} {ob : Bool} {p1 p2 p3 p4 p5 p6 p7 p8 p9 q1 q2 q3 q4 q5 q6 q7 q8 q9 r1 r2 r3 r4 r5 r6 : Pos} {j1 j2 j3 : Nat}
/-- the turns over the items -/
theorem spoil_turns {σ : St} {v : V} {q : Addr} {vs : List V} {ds : List D} {F : List Addr} {B H : Hp} (hs : Same B H) (hq : H q = some (.lst vs)) (nq : q ∉ F) (hd : Dprs X.K none B H vs ds F) (nd : F.Nodup) (fr : ∀ p ∈ F, B p = none)
    (hpl : ds.all (plX ob n) = true) (h0 : σ[0]? = some (some v)) (hl : σ.length = 2) {D' : Ends} (hend : ∀ σ' H', σ'[0]? = some (some v) → σ'.length = 2 → Kp F H H' → D'.nx σ' H') :
    ∃ W : Nat → Nat → St → Hp → Prop, (∃ m, W 0 m σ H) ∧ ∀ i m σ H, W i m σ H →
      ((Itl X.K q).stop i H ∧ D'.nx σ H) ∨ ((Itl X.K q).go i H ∧ ∃ N : St → Hp → Prop, (∀ σ' H', N σ' H' → ∃ m', m' < m ∧ W (i + 1) m' σ' H') ∧ ∀ x H', (Itl X.K q).yld i H x H' → gName 1 x σ H' fun σ2 H2 => tDrop (tCallS (spS X.K ob n) (fun _ _ _ _ => False) (tCons (tVar 1) tNil)) { D' with nx := N, ct := N, bk := D'.nx } σ2 H2) := by
  refine for_list (K := X.K) (a := q) (xs := vs) (g := gName 1) (tb := tDrop (tCallS (spS X.K ob n) (fun _ _ _ _ => False) (tCons (tVar 1) tNil))) (D := D') (σ := σ) (H := H)
    (fun i σ' H' => σ'[0]? = some (some v) ∧ σ'.length = 2 ∧ Kp F H H' ∧ ∃ Fr, Dprs X.K none B H' (vs.drop i) (ds.drop i) Fr ∧ Fr.Nodup ∧ ∀ a ∈ Fr, a ∈ F) ⟨h0, hl, fun a o _ e => e, F, by rw [List.drop_zero, List.drop_zero]; exact hd, nd, fun a h => h⟩
    (fun i σ' H' _ h => .inl (.inl (h.2.2.1 _ _ nq hq))) (fun i x σ' H' hx h => ?_) (fun σ' H' h => hend σ' H' h.1 h.2.1 h.2.2.1)
  obtain ⟨a1, a2, a3, Fr, a4, a5, a6⟩ := h
  have hi : i < vs.length := by
    rcases Nat.lt_or_ge i vs.length with z | z
    · exact z
    · rw [List.getElem?_eq_none z] at hx; cases hx
  have hi2 : i < ds.length := by rw [← hd.len]; exact hi
  rw [List.drop_eq_getElem_cons hi, List.drop_eq_getElem_cons hi2] at a4
  have ex : vs[i] = x := by rw [List.getElem?_eq_getElem hi] at hx; exact Option.some.inj hx
  cases a4 with
  | @cons _ _ _ _ F1 F2 b1 b2 =>
    obtain ⟨n1, n2, n3⟩ := List.nodup_append.mp a5
    have sB : Same B H' := fun a o e => a3 a o (fun z => by rw [fr a z] at e; cases e) (hs a o e)
    refine ⟨x, by rw [List.getElem?_set_self (by omega)], x, B, ds[i], F1, rfl, ⟨sB, ex ▸ b1, n1, fun p hp => fr p (a6 p (List.mem_append_left _ hp))⟩, List.all_eq_true.mp hpl _ (List.getElem_mem hi2), fun H2 kp => ?_⟩
    refine ⟨by rw [List.getElem?_set_ne (by decide)]; exact a1, by rw [List.length_set]; exact a2, a3.trans (kp.sub fun a h => a6 a (List.mem_append_left _ h)), F2, b2.mono (Same.refl _) (fun p hp o e => kp p o (fun z => n3 p z p hp rfl) e), n2, fun a h => a6 a (List.mem_append_right _ h)⟩
theorem plX_cases {n : Nat} {d : D} (h : plX ob (n + 1) d = true) : (∃ ds, d = .lst ds ∧ ds.length ≤ 100000 ∧ ds.all (plX ob n) = true) ∨ (∃ ds, d = .tup ds ∧ ds.length ≤ 100000 ∧ ds.all (plX ob n) = true) ∨ (isLst d = some false ∧ isTup d = some false) ∨ (ob = true ∧ ∃ fs l, d = .ins "Table" fs l) := by
  cases d with
  | lst ds =>
    have h2 : (decide (ds.length ≤ 100000) && ds.all (plX ob n)) = true := h
    rw [Bool.and_eq_true, decide_eq_true_eq] at h2
    exact .inl ⟨ds, rfl, h2⟩
  | tup ds =>
    have h2 : (decide (ds.length ≤ 100000) && ds.all (plX ob n)) = true := h
    rw [Bool.and_eq_true, decide_eq_true_eq] at h2
    exact .inr (.inl ⟨ds, rfl, h2⟩)
  | dic ks ds => exact .inr (.inr (.inl ⟨rfl, rfl⟩))
  | non => exact .inr (.inr (.inl ⟨rfl, rfl⟩))
  | bl _ => exact .inr (.inr (.inl ⟨rfl, rfl⟩))
  | int _ => exact .inr (.inr (.inl ⟨rfl, rfl⟩))
  | str _ => exact .inr (.inr (.inl ⟨rfl, rfl⟩))
  | ins c fs l =>
    have h2 : (ob && (c == "Table" && l.all (plX ob n))) = true := h
    rw [Bool.and_eq_true, Bool.and_eq_true, beq_iff_eq] at h2
    obtain ⟨h3, rfl, _⟩ := h2
    exact .inr (.inr (.inr ⟨h3, fs, l, rfl⟩))
  | exc _ _ _ _ => cases h
  | sto => cases h
  | scr _ => cases h
theorem plX_pin {n : Nat} {d : D} (h : plX ob n d = true) : PinD [] d := by
  cases n with
  | zero => cases h
  | succ n => cases d <;> first | trivial | cases h
/-- isinstance(x, list) by the value's kind alone -/
def rKind (K : PySem.W.Frag) (u : Value) : List V → Hp → VK → Prop := fun xs H Q => ∃ v c t b, xs = [v, c] ∧ (∀ w, RelV c w → w = u) ∧ TyX K H v t ∧ PySem.W.kitOne K t u = some b ∧ Q (.bl b) H
theorem cr_kind {u : Value} : CallR X (.builtin "isinstance") (rKind X.K u) := by
  intro pins s σ H xs us Q I r h
  obtain ⟨v, c, t, b, rfl, hc, ty, e, q⟩ := h
  obtain ⟨u1, u2, rfl, r1, r2⟩ := vals2 r
  rw [hc u2 r2]
  obtain ⟨P, z, pp, hx⟩ := kit_of I r1 ty
  exact PySem.W.kia_one z I.kIn pp e hx fun tk => ⟨.bl b, H, I.tok tk, rfl, q⟩
def tKind (K : PySem.W.Frag) (u : Value) : TT := fun σ H Q => ∃ v t b, σ[0]? = some (some v) ∧ TyX K H v t ∧ PySem.W.kitOne K t u = some b ∧ Q b H
theorem pt_kind {gv T : Str} {n : String} (hN : X.N[0]? = some gv) (hv : Vis X.env.scope gv) (hm : X.mg "isinstance" = none) (hT : X.mg T = none) (hb : bootBuiltins T = some (.type n)) (hg : Gl X "isinstance" := by rfl) (hgT : Gl X T := by rfl)
    (hn : T ≠ "__name__" := by decide) (hd : (T == ("__debug__" : Str)) = false := by decide) (hd2 : (gv == ("__debug__" : Str)) = false := by decide) (hcd : (gv == ("__classdict__" : Str)) = false := by decide)
    (he : starEach [.Name gv q1, .Name T q2] X.env = (false, eval (.Name gv q1) X.env) :: starEach [.Name T q2] X.env := by rfl) (he2 : starEach [.Name T q2] X.env = (false, eval (.Name T q2) X.env) :: starEach [] X.env := by rfl)
    (hpl : (backTo q3 (starEach [.Name T q2] X.env)).any (·.1) = false := by rfl) (ht : ∀ whole, isTrue (.Call (.Name "isinstance" q4) [.Name gv q1, .Name T q2] [] q3) X.env whole = (do let v ← whole; standAt (Expr.Call (.Name "isinstance" q4) [.Name gv q1, .Name T q2] [] q3).pos; holding [v] (truthy v)) := by intro _; rfl) :
    PT X (.Call (.Name "isinstance" q4) [.Name gv q1, .Name T q2] [] q3) (tKind X.K (.type n)) := by
  refine pt_weak (pt_val (pe_callB (cr_kind (u := .type n)) hg hm (by decide +kernel) (pa_cons (pe_var hN hv hd2 hcd) (pa_cons (pe_bltn (v := .ty n) hgT hT hb rfl hn hd) pa_nil he2) he) (he := he) (hpl := hpl)) ht) fun σ H Q h => ?_
  obtain ⟨v, t, b, h0, ty, e, q⟩ := h
  exact ⟨v, h0, v, .ty n, t, b, rfl, fun w r => r, ty, e, b, rfl, q⟩
abbrev tSpA (K : PySem.W.Frag) (ob : Bool) (n : Nat) : TS := tFor (iList K (tCB (fun xs H Q => ∃ p ys, xs = [.ref p] ∧ (SqL K H p ys ∨ SqT K H p ys) ∧ ∀ l, H l = none → Q (.ref l) (upd H l (.lst ys))) (tCons (tVar 0) tNil))) (gName 1) (tDrop (tCallS (spS K ob n) (fun _ _ _ _ => False) (tCons (tVar 1) tNil)))
abbrev tSpB (K : PySem.W.Frag) : TS := tSeq (tDrop (tBM0 K "list" rReverse (tVar 0))) (tSeq (tDrop (tBM K "list" rAppend (tVar 0) (tCons (tC (.str "spoilt")) tNil))) (tAsg (tC (.str "spoilt")) (gSub (tVar 0) (tC (.int 0)) rSetL)))
theorem ty_pl {K : PySem.W.Frag} {B H : Hp} {v : V} {d : D} {F : List Addr} (o : Ow1 K B H v d F) (h : isLst d = some false) : ∃ t, kdT d = some t ∧ TyX K H v (.type t) := by
  have hj : Same (join B (part H F)) H := fun a o1 e => by
    by_cases ha : a ∈ F
    · rw [join_r (o.fr a ha), part_in ha] at e; exact e
    · have : join B (part H F) a = B a := by
        unfold join; rw [part_out ha]; cases B a <;> rfl
      rw [this] at e; exact o.hi a o1 e
  have rd : Rp K none (join B (part H F)) v d := o.t.still (join_l _ _) fun p hp xs e => by rw [join_r (o.fr p hp), part_in hp]; exact e
  have kd : ∃ t, kdT d = some t := by
    cases d <;> first | exact ⟨_, rfl⟩ | cases h
  obtain ⟨t, ht⟩ := kd
  exact ⟨t, ht, tyx_of hj rd ht⟩
theorem spoil_walk {f : D → Option Bool} (hTF : ob = true → TabF X.K) (hf : ∀ d b, orF isLst isTup d = some b → f d = some b) (hfi : ob = true → ∀ fs l, f (.ins "Table" fs l) = some false) (hpn : X.pn = []) {v : V} {H : Hp} {Q : VK} {E : XK} {N : Ends} (hD : ∀ σ H', Q .non H' → N.nx σ H') (h : spS X.K ob (n + 1) [v] H Q E) :
    tSeq (tIfS (tTst X.K f X.pn) (tSpA X.K ob n) tNext) (tIfS (tKind X.K (.type "list")) (tSpB X.K) tNext) N [some v, none] H := by
  obtain ⟨v', B, d, F, e, o, hp, q⟩ := h
  cases e
  rw [hpn]
  have pin := plX_pin hp
  have kT : PySem.W.kitOne X.K (.type "list") (.type "list") = some true := kit_ty (by decide +kernel)
  rcases plX_cases hp with ⟨ds, rfl, hz, hall⟩ | ⟨ds, rfl, hz, hall⟩ | ⟨hL, hT⟩ | ⟨ho, fs, l, rfl⟩
  · obtain ⟨p, vs, F', rfl, rfl, hp0, hd⟩ := o.lst
    have nd := List.nodup_cons.mp o.nd
    refine ⟨.ref p, B, _, _, true, rfl, rfl, o, hf _ _ rfl, pin, fun H1 s1 => ?_⟩
    refine ⟨.ref p, rfl, p, vs, rfl, .inl (.inl (.inl (s1 _ _ hp0))), fun l hl => ⟨l, rfl, ⟨vs, .inl (.inl upd_same)⟩, ?_⟩⟩
    have s2 : Same H1 (upd H1 l (.lst vs)) := same_upd hl
    have nl : l ∉ F' := fun z => by
      obtain ⟨xs, hx⟩ := hd.lists l z
      rw [s1 _ _ hx] at hl; cases hl
    refine spoil_turns (X := X) (n := n) ((o.hi.trans s1).trans s2) upd_same nl (hd.mono (Same.refl _) fun a _ o e => s2 _ _ (s1 _ _ e)) nd.2 (fun a h => o.fr a (List.mem_cons_of_mem _ h)) hall rfl rfl fun σ' H' e0 el kp => ?_
    have kp2 : Kp (p :: F') H H' := ((Kp.of s1).trans (Kp.of s2)).trans (kp.sub fun a h => List.mem_cons_of_mem _ h)
    have hp' : H' p = some (.lst vs) := kp _ _ nd.1 (s2 _ _ (s1 _ _ hp0))
    refine ⟨.ref p, .type "list", true, e0, .base (.lst hp'), kT, ?_⟩
    refine ⟨.ref p, e0, .inl ⟨rfl, _, .inl (.inl hp')⟩, p, vs, rfl, rfl, hp', ?_⟩
    refine ⟨.ref p, e0, .inl ⟨rfl, _, .inl (.inl upd_same)⟩, p, _, _, rfl, rfl, upd_same, by rw [List.length_reverse, hd.len, sizeLine_eq]; omega, ?_⟩
    refine ⟨.ref p, e0, p, _, 0, 0, rfl, rfl, upd_same, ?_, ?_⟩
    · unfold ixN
      rw [List.length_append, List.length_singleton, if_pos (Int.le_refl 0), if_pos (by omega)]
      rfl
    · refine hD _ _ (q _ fun a o1 na e => ?_)
      have ne : a ≠ p := fun z => na (z ▸ List.mem_cons_self)
      rw [upd_ne ne, upd_ne ne, upd_ne ne]
      exact kp2 a o1 na e
  · obtain ⟨p, vs, rfl, hq, hd⟩ := o.tup
    refine ⟨.ref p, B, _, _, true, rfl, rfl, o, hf _ _ rfl, pin, fun H1 s1 => ?_⟩
    have hq1 := sqT_same (o.hi.trans s1) hq
    refine ⟨.ref p, rfl, p, vs, rfl, .inr hq1, fun l hl => ⟨l, rfl, ⟨vs, .inl (.inl upd_same)⟩, ?_⟩⟩
    have s2 : Same H1 (upd H1 l (.lst vs)) := same_upd hl
    have nl : l ∉ F := fun z => by
      obtain ⟨xs, hx⟩ := hd.lists l z
      rw [s1 _ _ hx] at hl; cases hl
    refine spoil_turns (X := X) (n := n) ((o.hi.trans s1).trans s2) upd_same nl (hd.mono (Same.refl _) fun a _ o e => s2 _ _ (s1 _ _ e)) o.nd o.fr hall rfl rfl fun σ' H' e0 el kp => ?_
    have kp2 : Kp F H H' := ((Kp.of s1).trans (Kp.of s2)).trans kp
    have sB : Same B H' := fun a o1 e => kp2 a o1 (fun z => by rw [o.fr a z] at e; cases e) (o.hi a o1 e)
    have kF : PySem.W.kitOne X.K (.type "tuple") (.type "list") = some false := kit_ty (by decide +kernel)
    refine ⟨.ref p, .type "tuple", false, e0, ?_, kF, hD _ _ (q _ kp2)⟩
    rcases sqT_same sB hq with (h | ⟨o, h⟩) | ⟨o, its, n, h1, h2, _⟩
    · exact .base (.tup h)
    · exact .fTuple h
    · exact .kTuple h1 h2
  · obtain ⟨t, kd, ty⟩ := ty_pl o hL
    have nx : NoExc d = true := by cases d <;> first | rfl | cases kd
    refine ⟨v, B, d, F, false, rfl, rfl, o, hf _ _ (by unfold orF; rw [if_pos nx, hL, hT]; rfl), pin, fun H1 s1 => ?_⟩
    have o1 : Ow1 X.K B H1 v d F := ⟨o.hi.trans s1, o.t.mono (Same.refl _) fun p _ o e => s1 _ _ e, o.nd, o.fr⟩
    obtain ⟨t', kd', ty'⟩ := ty_pl o1 hL
    obtain ⟨t2, k1, k2⟩ : ∃ t, kdT d = some t ∧ PySem.W.kitOne X.K (.type t) (.type "list") = some false := by
      have := isLst_ok (K := X.K) d false hL
      cases d <;> first | exact this | cases kd
    rw [kd'] at k1; cases k1
    exact ⟨v, _, false, rfl, ty', k2, hD _ _ (q _ (Kp.of s1))⟩
  · refine ⟨v, B, _, F, false, rfl, rfl, o, hfi ho _ _, pin, fun H1 s1 => ?_⟩
    have z := (hTF ho).ink
    have hr : Rp X.K none B v (.ins "Table" fs l) := by
      have t := o.t
      cases t with
      | leaf h1 _ => exact h1
    cases hr with
    | ins hp2 hl2 hr2 => exact ⟨_, _, false, rfl, .base (.ins (s1 _ _ (o.hi _ _ hp2)) z.cl z.ha z.hn z.ht z.hm), (hTF ho).lst, hD _ _ (q _ (Kp.of s1))⟩
end
section
variable {P : Program} {w : World} {K : PySem.W.Frag} {mg : Str → Option Value} {base : Heap} {x qual : Str} {params : Arguments} {body : List Stmt} {scope : Scope} {f : Addr} {fd : FuncData} {N ps : List Str} {k n : Nat} {ob : Bool}
theorem fdx_ok {ft : D → Option Bool} (hTF : ob = true → TabF K) (hf : ∀ d b, orF isLst isTup d = some b → ft d = some b) (hfi : ob = true → ∀ fs l, ft (.ins "Table" fs l) = some false) (F : FunD K x qual params body scope [] [] f fd) (S : FnScope N ps scope) (hN : N.length = 2) (hps : ps.length = 1) (hm : mg x = some (.ref f))
    (hbd : ∀ (kV doc pm : Value) (an : Option Addr) (cdv ct : Value) (us : List Value), us.length = ps.length → bindArgs (PySem.W.fnOf x qual params body scope .none kV doc pm an cdv ct) ⟨us, []⟩ = pure (ps.zip us))
    (hb : ∀ (cdv : Value) (A : Around) (outer : List Env) (s : Shared) (H : Hp) (E : XK), Room k (A.deeper (envOfC qual scope s.heap.objs.size f cdv)) →
      PSs (cxD P w K mg base N qual scope f cdv A outer s H E) body (tSeq (tIfS (tTst K ft []) (tSpA K ob n) tNext) (tIfS (tKind K (.type "list")) (tSpB K) tNext))) :
    FDx P w K mg base (k + 1) x ob (n + 1) := by
  refine ⟨f, fd, ps, hm, F.kp, ?_, F.bindsN hbd⟩
  refine F.ok S (fun vs H Q E h => ?_) (fun cdv A outer s H vs Q E hr h => ?_)
  · obtain ⟨v, B, d, F, rfl, _⟩ := h
    rw [hps]; rfl
  · refine ⟨_, hb cdv A outer s H E hr, ?_⟩
    obtain ⟨v, B, d, F, rfl, h1⟩ := id h
    have e : start N [v] = [some v, none] := by
      unfold L2.start
      rw [hN]
      rfl
    rw [e]
    exact spoil_walk hTF hf hfi (X := cxD P w K mg base N qual scope f cdv A outer s H E) rfl (fun _ _ q => q) h
theorem fdx_never (F : FunD K x qual params body scope [] [] f fd) (hm : mg x = some (.ref f))
    (hbd : ∀ (kV doc pm : Value) (an : Option Addr) (cdv ct : Value) (us : List Value), us.length = ps.length → bindArgs (PySem.W.fnOf x qual params body scope .none kV doc pm an cdv ct) ⟨us, []⟩ = pure (ps.zip us)) : FDx P w K mg base k x ob 0 :=
  ⟨f, fd, ps, hm, F.kp, ⟨(fun vs H Q E ⟨v, B, d, F, _, _, hp, _⟩ => by cases hp), (fun A outer s H args us vs Q E _ _ _ _ ⟨v, B, d, F, _, _, hp, _⟩ => by cases hp)⟩, F.bindsN hbd⟩
end
/-! ### the call of it -/
theorem plX_rp {K : PySem.W.Frag} {so so' : Option Addr} {B : Hp} {ob : Bool} : ∀ {n : Nat} {d : D} {v : V}, plX ob n d = true → Rp K so B v d → Rp K so' B v d := by
  intro n
  induction n with
  | zero => intro d v h; cases h
  | succ n ih =>
    have all : ∀ {ds : List D} {vs : List V}, ds.all (plX ob n) = true → Rps K so B vs ds → Rps K so' B vs ds := by
      intro ds
      induction ds with
      | nil => intro vs _ r; cases r; exact .nil
      | cons d ds ih2 =>
        intro vs h r
        rw [List.all_cons, Bool.and_eq_true] at h
        cases r with
        | cons r1 r2 => exact .cons (ih h.1 r1) (ih2 h.2 r2)
    intro d v h r
    cases r with
    | non => exact .non
    | bl b => exact .bl b
    | int i => exact .int i
    | str x => exact .str x
    | lst hp hr =>
      have h2 : (decide (_ ≤ 100000) && _) = true := h
      rw [Bool.and_eq_true] at h2
      exact .lst hp (all h2.2 hr)
    | tup hp hr =>
      have h2 : (decide (_ ≤ 100000) && _) = true := h
      rw [Bool.and_eq_true] at h2
      exact .tup hp (all h2.2 hr)
    | @dic p ks vs ds hp hl hr => exact .dic hp hl (lfD_rps (okDc_lf h).2.2.1 hr)
    | @ins p dx c fs vs ds hp hl hr =>
      have h2 : (ob && (c == "Table" && ds.all (plX ob n))) = true := h
      rw [Bool.and_eq_true, Bool.and_eq_true] at h2
      exact .ins hp hl (all h2.2.2 hr)
    | exn _ _ => cases h
    | exa _ _ _ _ => cases h
    | sto _ => cases h
    | scr _ => cases h
theorem dpr_plX {K : PySem.W.Frag} {so so' : Option Addr} {B H : Hp} : ∀ {ob : Bool} {n : Nat} {d : D} {v : V} {F : List Addr}, plX ob n d = true → Dpr K so B H v d F → Dpr K so' B H v d F := by
  intro ob n
  induction n with
  | zero => intro d v F h; cases h
  | succ n ih =>
    have all : ∀ {ds : List D} {vs : List V} {F : List Addr}, ds.all (plX ob n) = true → Dprs K so B H vs ds F → Dprs K so' B H vs ds F := by
      intro ds
      induction ds with
      | nil => intro vs F _ r; cases r; exact .nil
      | cons d ds ih2 =>
        intro vs F h r
        rw [List.all_cons, Bool.and_eq_true] at h
        cases r with
        | cons r1 r2 => exact .cons (ih h.1 r1) (ih2 h.2 r2)
    intro d v F h r
    cases r with
    | leaf h1 h2 => exact .leaf (plX_rp h h1) h2
    | lst hp hr =>
      have h2 : (decide (_ ≤ 100000) && _) = true := h
      rw [Bool.and_eq_true] at h2
      exact .lst hp (all h2.2 hr)
    | tup hp hr =>
      have h2 : (decide (_ ≤ 100000) && _) = true := h
      rw [Bool.and_eq_true] at h2
      exact .tup hp (all h2.2 hr)
section
variable {G : Gx} {R₁ R₂ : Roots} {v : V} {x : Sl} {H H' B : Hp}
/-- a root's lists are changed by somebody -/
theorem Rel.spoilt (h : Rel G (R₁ ++ (some v, x) :: R₂) H B) (kp : Kp x.foot H H') : Rel G (R₁ ++ (some v, .un) :: R₂) H' B := by
  have hmem : (some v, x) ∈ R₁ ++ (some v, x) :: R₂ := List.mem_append_right _ List.mem_cons_self
  have ap := fun p hp => h.ap p (mem_feet hmem hp)
  have hnd := h.nd
  rw [feet_split] at hnd
  have dis : ∀ p, p ∈ x.foot → p ∉ feet R₁ ∧ p ∉ feet R₂ := fun p hp => by
    obtain ⟨_, h2, h3⟩ := List.nodup_append.mp hnd
    obtain ⟨_, _, h4⟩ := List.nodup_append.mp h2
    exact ⟨fun z => h3 p z p (List.mem_append_left _ hp) rfl, fun z => h4 p hp p z rfl⟩
  refine ⟨h.lo, fun a o e => kp a o (fun z => by rw [(ap a z).1] at e; cases e) (h.hi a o e), fun a o e n => kp a o (fun z => by rw [(ap a z).2.1] at e; cases e) (h.fr a o e n), h.nw, fun r hr => ?_, ?_, fun p hp => ?_, fun s e => ?_⟩
  · rcases List.mem_append.mp hr with hr | hr
    · exact (h.rep r (List.mem_append_left _ hr)).mono (Same.refl _) fun p hp o e => kp p o (fun z => (dis p z).1 (mem_feet hr hp)) e
    · rcases List.mem_cons.mp hr with rfl | hr
      · trivial
      · exact (h.rep r (List.mem_append_right _ (List.mem_cons_of_mem _ hr))).mono (Same.refl _) fun p hp o e => kp p o (fun z => (dis p z).2 (mem_feet hr hp)) e
  · rw [feet_split]
    refine hnd.sublist (List.Sublist.append (List.Sublist.refl _) ?_)
    show (([] : List Addr) ++ feet R₂).Sublist _
    exact List.sublist_append_right _ _
  · rw [feet_split] at hp
    refine h.ap p ?_
    rw [feet_split]
    rcases List.mem_append.mp hp with q | q
    · exact List.mem_append_left _ q
    · exact List.mem_append_right _ (List.mem_append_right _ (by simpa [Sl.foot] using q))
  · obtain ⟨s1, s2⟩ := h.st s e
    obtain ⟨ys, hy⟩ := h.store_some e
    exact ⟨s1, s2.mono (Same.refl _) ((kp s _ (fun z => (ap s z).2.2 e) hy).trans hy.symm)⟩
theorem Rel.ow1 {ob : Bool} {n : Nat} (h : Rel G (R₁ ++ (some v, x) :: R₂) H B) (o : okO x = true) (hp : plX ob n x.dat = true) : Ow1 G.K B H v x.dat x.foot := by
  have hmem : (some v, x) ∈ R₁ ++ (some v, x) :: R₂ := List.mem_append_right _ List.mem_cons_self
  have hnd := h.nd
  rw [feet_split] at hnd
  obtain ⟨_, h2, _⟩ := List.nodup_append.mp hnd
  exact ⟨h.hi, dpr_plX hp (okO_dpr (h.rep _ hmem) o), (List.nodup_append.mp h2).1, fun p hp => (h.ap p (mem_feet hmem hp)).1⟩
end
/-- f(x), a name's value spoilt -/
def wSpoilX (ob : Bool) (n i : Nat) : DS := fun N ρ _ => ∃ x, ρ[i]? = some x ∧ okO x = true ∧ plX ob n x.dat = true ∧ N.nx (ρ.set i .un)
def wSpoilEX (ob : Bool) (n : Nat) (we : DT Sl) : DS := fun N ρ E => we ρ (fun x ρ1 => okO x = true ∧ plX ob n x.dat = true ∧ N.nx ρ1) E
theorem wSpoilX_mono {ob : Bool} {n i : Nat} : MonoS (wSpoilX ob n i) := fun _ _ _ _ _ ⟨x, h1, h2, h3, h4⟩ hd _ => ⟨x, h1, h2, h3, hd.nx _ h4⟩
theorem wSpoilEX_mono {ob : Bool} {n : Nat} {we : DT Sl} (hm : Mono we) : MonoS (wSpoilEX ob n we) := fun _ _ _ _ _ h hd he => hm (fun _ _ k => ⟨k.1, k.2.1, hd.nx _ k.2.2⟩) he h
abbrev wSpoilVI (n i : Nat) : DS := wSpoilX true n i
abbrev wSpoilEI (n : Nat) (we : DT Sl) : DS := wSpoilEX true n we
section
variable {G : Gx} {X : Cx} {x nm : Str} {k n : Nat} {p q pos spos : Pos} {e : Expr} {we : DT Sl} {ob : Bool}
theorem ds_spoilX (i : Nat) (F : FDx X.prog X.w X.K X.mg X.base k x ob n) (hr : Room k X.A) (hK : G.K = X.K) (hN : X.N[i]? = some nm := by rfl) (hv : Vis X.env.scope nm := by first | exact Or.inl rfl | exact Or.inr (Or.inl rfl) | exact Or.inr (Or.inr rfl)) (hd : (nm == ("__debug__" : Str)) = false := by decide) (hcd : (nm == ("__classdict__" : Str)) = false := by decide)
    (hg : Gl X x := by rfl) (hdb : (x == ("__debug__" : Str)) = false := by decide) (he : starEach [.Name nm q] X.env = (false, eval (.Name nm q) X.env) :: starEach [] X.env := by rfl) (hpl : (backTo pos (starEach [] X.env)).any (·.1) = false := by rfl)
    (hs : swapsWith (.Call (.Name x p) [.Name nm q] [] pos) none spos.line X.env = pure false := by rfl) : DSt G X (.Expr (.Call (.Name x p) [.Name nm q] [] pos) spos) (wSpoilX ob n i) := by
  obtain ⟨f, fd, ps, hm, hk, hF, hB⟩ := F
  refine ⟨wSpoilX_mono, ps_weak (ps_expr (pe_callS (E := fun _ => fun _ _ _ => False) hF hr hg hm hk hB (fun σ => L2N.passAt (takes_no (X := X)) σ) (pa_cons (pe_var hN hv hd hcd) pa_nil he) hdb he hpl) hs) fun D σ H h => ?_⟩
  obtain ⟨ρ, τ, ⟨l, B, hr0⟩, y, h1, h2, h3, h4⟩ := h
  obtain ⟨L, R, v, e1, e2, e3⟩ := zip_split l h1
  rw [e2, List.append_assoc, List.cons_append] at hr0
  cases v with
  | none =>
    have z := hr0.rep (none, y) (by simp)
    cases y with
    | un => cases h2
    | _ => exact z.elim
  | some v =>
    refine ⟨v, e1, ?_⟩
    show spS X.K ob n [v] H (fun x H1 => D.nx σ H1) (fun _ _ _ => False)
    rw [← hK]
    refine ⟨v, B, y.dat, y.foot, rfl, hr0.ow1 h2 h3, h3, fun H' kp => ?_⟩
    refine h4 (by rw [List.length_set]) σ H' ⟨by rw [List.length_set]; exact l, B, ?_⟩
    rw [e3, List.append_assoc, List.cons_append]
    exact hr0.spoilt kp
theorem ds_spoilEX (F : FDx X.prog X.w X.K X.mg X.base k x ob n) (hr : Room k X.A) (hK : G.K = X.K) (ha : DE G X e we)
    (hg : Gl X x := by rfl) (hdb : (x == ("__debug__" : Str)) = false := by decide) (he : starEach [e] X.env = (false, eval e X.env) :: starEach [] X.env := by rfl) (hpl : (backTo pos (starEach [] X.env)).any (·.1) = false := by rfl)
    (hs : swapsWith (.Call (.Name x p) [e] [] pos) none spos.line X.env = pure false := by rfl) : DSt G X (.Expr (.Call (.Name x p) [e] [] pos) spos) (wSpoilEX ob n we) := by
  obtain ⟨f, fd, ps, hm, hk, hF, hB⟩ := F
  refine ⟨wSpoilEX_mono ha.mono, ps_weak (ps_expr (pe_callS (E := fun _ => fun _ _ _ => False) hF hr hg hm hk hB (fun σ => L2N.passAt (takes_no (X := X)) σ) (pa_cons ha.pe pa_nil he) hdb he hpl) hs) fun D σ H h => ?_⟩
  obtain ⟨ρ, τ, hA, hw⟩ := h
  refine ⟨ρ, τ, hA, ha.mono (fun y ρ1 k ny l v H1 A1 => ?_) (fun _ _ e => e) hw⟩
  obtain ⟨B, hr0⟩ := A1.rel
  rw [← List.append_assoc] at hr0
  show spS X.K ob n [v] H1 (fun x H1 => D.nx σ H1) (fun _ _ _ => False)
  rw [← hK]
  refine ⟨v, B, y.dat, y.foot, rfl, Rel.ow1 (R₂ := []) hr0 k.1 k.2.1, k.2.1, fun H' kp => ?_⟩
  refine k.2.2 l σ H' ⟨A1.len, B, (Rel.spoilt (R₂ := []) hr0 kp).sublist (List.sublist_append_left _ _)⟩
end
end DL
set_option Elab.async false
set_option maxRecDepth 100000
set_option maxHeartbeats 4000000
set_option linter.unusedVariables false
/-! data-level layer, part p: loops over zip; targets of two names -/
namespace DL
open PySem PySem.Spec PyProof.Rows L2 NdefX RZ
def zipD (ds es : List D) : List D := List.zipWith (fun d e => .tup [d, e]) ds es
section
variable {G : Gx}
end
/-- zip of two lists, of two tuples -/
def wZip (w : DT (List Sl)) : DT (List D) := fun ρ Q E => w ρ (fun xs ρ1 => match datas xs with
  | [.lst ds, .lst es] => Q (zipD ds es) ρ1
  | [.tup ds, .tup es] => Q (zipD ds es) ρ1
  | _ => False) E
section
variable {G : Gx} {X : Cx}
end
end DL
set_option Elab.async false
set_option maxRecDepth 100000
set_option maxHeartbeats 4000000
set_option linter.unusedVariables false
/-! data-level layer, part q: targets of two names; comprehensions over them -/
namespace DL
open PySem PySem.Spec PyProof.Rows L2 NdefX
def dgTwo (i j : Nat) : DG := fun d ρ Q => match d with
  | .tup [a, b] => Q ((ρ.set i (.sh a)).set j (.sh b))
  | _ => False
section
variable {G : Gx} {X : Cx} {x y : Str} {k : Nat} {pos px py : Pos}
end
/-- a slot put aside -/
theorem slot_out {G : Gx} {σ : St} {ρ : DEnv} {τ : Roots} {H : Hp} (i : Nat) {y : Sl} (A : At G σ ρ τ H) (hy : ρ[i]? = some y) (hst : StillS y) :
    ∃ xr : Roots, At G (σ.set i none) (ρ.set i .un) (τ ++ xr) H ∧ ∀ ρ2 u H2, At G (σ.set i none) ρ2 (u ++ xr) H2 → At G σ (ρ2.set i y) u H2 := by
  have set2 : ∀ v : Option V, (σ.set i none).set i v = σ.set i v := fun v => List.set_set ..
  have seti : ∀ v : Option V, σ[i]? = some v → σ.set i v = σ := fun v e => by
    obtain ⟨hl, e2⟩ := List.getElem?_eq_some_iff.mp e
    rw [← e2]; exact List.set_getElem_self hl
  obtain ⟨L, R, v, e1, e2, _⟩ := zip_split A.len hy
  rcases hst with rfl | ⟨d, rfl⟩
  · refine ⟨[], by rw [List.append_nil]; exact A.wipe i none, fun ρ2 u H2 A2 => ?_⟩
    rw [List.append_nil] at A2
    have A3 := A2.wipe i v
    rw [set2, seti v e1] at A3
    exact A3
  · obtain ⟨B, hr⟩ := A.rel
    have z := hr.rep (v, .sh d) (by rw [e2]; simp)
    cases v with
    | none => exact z.elim
    | some v =>
      refine ⟨[(some v, .sh d)], (At.addSh A.len hr z).wipe i none, fun ρ2 u H2 A2 => ?_⟩
      have A3 := At.store i A2
      rw [set2, seti _ e1] at A3
      exact A3
section
variable {G : Gx} {X : Cx}
end
end DL
set_option Elab.async false
set_option maxRecDepth 100000
set_option maxHeartbeats 4000000
set_option linter.unusedVariables false
/-! data-level layer, part r: sum of a list of ints -/
namespace DL
open PySem PySem.Spec PyProof.Rows L2 NdefX
def intOf : D → Int
  | .int i => i
  | _ => 0
def pSum : List D → Prop
  | [.lst ds] => ∃ ns : List Int, ds = ns.map D.int
  | _ => False
def fSum : List D → D
  | [.lst ds] => .int (ds.map intOf).sum
  | _ => .non
theorem map_intOf (ns : List Int) : (ns.map D.int).map intOf = ns := by
  rw [List.map_map]
  exact (List.map_congr_left fun _ _ => rfl).trans (List.map_id ns)
theorem opa_sum {G : Gx} : OpA G (rSum G.K) (roF pSum fSum) := opa_F fun so vs ds H B Q e hv hp k => by
  unfold pSum at hp
  split at hp
  · rename_i ds
    obtain ⟨ns, rfl⟩ := hp
    have k2 := k (.int ns.sum) (by
      have : fSum [.lst (ns.map D.int)] = .int ns.sum := by show D.int _ = _; rw [map_intOf]
      rw [this]; exact .int _)
    cases hv with
    | cons h1 h2 =>
      cases h2
      cases h1 with
      | lst hs hr =>
        have := hr.ints_of
        subst this
        exact ⟨_, ns, rfl, .inl (.inl (e _ _ hs)), k2⟩
  · exact hp.elim
abbrev wSum := wFun (roF pSum fSum)
section
variable {G : Gx} {X : Cx} {a : Expr} {wr : DT (List Sl)} {p pos : Pos}
theorem de_sum (hc : X.calm = true) (hK : G.K = X.K) (hm : X.mg "sum" = none) (ha : DA G X [a] wr) (hg : Gl X "sum" := by rfl) (he : starEach [a] X.env = (false, eval a X.env) :: starEach [] X.env := by rfl) : DE G X (.Call (.Name "sum" p) [a] [] pos) (wSum wr) := de_callB (cr_sum hc) (hK ▸ opa_sum) roF_mono hg hm (by decide +kernel) ha (he := he)
end
end DL
set_option Elab.async false
set_option maxRecDepth 100000
set_option maxHeartbeats 4000000
set_option linter.unusedVariables false
/-! data-level layer, part Mf: sum and [::-1] of tuples, methods without arguments and by names, values moved, isinstance of an own class -/
namespace DL
open PySem PySem.Spec PyProof.Rows L2 NdefX
/-! ### sum of a tuple -/
def pSumT : List D → Prop
  | [.tup ds] => ∃ ns : List Int, ds = ns.map D.int
  | _ => False
def fSumT : List D → D
  | [.tup ds] => .int (ds.map intOf).sum
  | _ => .non
section
variable {G : Gx} {X : Cx} {a : Expr} {wr : DT (List Sl)} {p pos : Pos}
end
/-! ### t[::-1] -/
section
variable {prog : Program} {w : World} {A : Around} {E : Value → Shared → Prop} {s : Shared}
end
def wRevT (wa : DT Sl) : DT Sl := fun ρ Q E => wa ρ (fun x ρ1 => match x.dat with
  | .tup ds => Q (.sh (.tup ds.reverse)) ρ1
  | _ => False) E
/-! ### methods -/
section
variable {G : Gx} {X : Cx} {o : Expr} {wo : DT Sl} {m c : Str} {pos apos : Pos} {k n : Nat} {W : DW1} {pl : Sem Bool}
/-- o.m() -/
theorem de_meth0 (F : FDm X.prog X.w X.K X.mg X.base k c m 1 W) (hr : Room k X.A) (hK : G.K = X.K) (tk : L2N.Takes X fun cls d σ H => G.EX σ cls d H) (hE : ∀ σ σ' : St, G.EX σ = G.EX σ') (ho : DE G X o wo)
    (ht : eval (.Call (.Attribute o m apos) [] [] pos) X.env = (do
      let ov ← eval o X.env
      standAt apos.atName
      let (f, first) ← holding [ov] (getMethod ov m pl)
      callWith pos f first (backTo pos (starEach [] X.env)) (backToKw pos (keywordEach [] X.env))) := by rfl) :
    DE G X (.Call (.Attribute o m apos) [] [] pos) (wMeth c m W wo wNil) := by
  obtain ⟨hW, f, fd, ps, hC, hM, hF, hB⟩ := F
  have tk' : L2N.Takes X fun cls d _ H => G.EX [] cls d H := tk.imp fun c d σ H h => by rw [hE σ []]; exact h
  refine ⟨wMeth_mono hW ho.mono (fun _ _ _ _ _ hq _ h => hq _ _ h), pe_weak (pe_meth0 (E := G.EX []) (dvs := []) ho.pe hC hM hF hr hB .nil (L2N.passes_call tk' fun _ _ _ _ h => h) ht) fun σ H Q h => ?_⟩
  obtain ⟨ρ, τ, hA, hw⟩ := h
  refine ⟨ρ, τ, hA, ho.mono (fun x ρ1 k nx l v H1 A1 => ?_) (fun _ _ e => e) hw⟩
  obtain ⟨B, h1, h2⟩ := A1.still nx
  split at k
  · rename_i c' fs ds ex
    obtain ⟨rfl, k1, k2⟩ := k
    rw [ex] at h1
    have h0 := h1
    cases h1 with
    | ins hp hl hv =>
      refine ⟨_, _, _, rfl, by rw [← hK]; exact h2.hi _ _ hp, Rps.look_none k1, ?_⟩
      have key := call_ends (Q := Q) (n := 1) hW A1.len rfl h2 (Rps.cons h0 .nil) (hW (fun zz q nz v H' A' => q nz l v H' A') (fun e q => q) k2)
      rw [← hK, hE [] σ]
      exact key
  · exact k.elim
end
/-! ### a name's value is moved out -/
def wMv (i : Nat) : DT Sl := fun ρ Q _ => match ρ[i]? with
  | some .un => False
  | none => False
  | some x => Q x (ρ.set i .un)
theorem wMv_mono {i : Nat} : Mono (wMv i) := fun ρ _ _ _ _ hq _ h => by
  unfold wMv at h ⊢
  split at h
  · exact h.elim
  · exact h.elim
  · exact hq _ _ h
section
variable {G : Gx} {X : Cx} {pos : Pos}
theorem de_mv (i : Nat) {x : Str} (hN : X.N[i]? = some x := by rfl) (hv : Vis X.env.scope x := by first | exact Or.inl rfl | exact Or.inr (Or.inl rfl) | exact Or.inr (Or.inr rfl)) (hd : (x == ("__debug__" : Str)) = false := by decide)
    (hcd : (x == ("__classdict__" : Str)) = false := by decide) : DE G X (.Name x pos) (wMv i) := by
  refine ⟨wMv_mono, pe_weak (pe_var hN hv hd hcd) fun σ H Q hw => ?_⟩
  obtain ⟨ρ, τ, hA, hw⟩ := hw
  unfold wMv at hw
  split at hw
  · exact hw.elim
  · exact hw.elim
  · rename_i y hne e
    obtain ⟨L, R, v, h1, h2, h3⟩ := zip_split hA.len e
    obtain ⟨B, hr⟩ := hA.rel
    rw [h2, List.append_assoc, List.cons_append] at hr
    cases v with
    | none =>
      have q := hr.rep (none, y) (by simp)
      cases y with
      | un => exact (hne rfl).elim
      | _ => exact q.elim
    | some v =>
      refine ⟨v, h1, hw (fun z => hne (z ▸ rfl)) (by rw [List.length_set]) v H ⟨by rw [List.length_set]; exact hA.len, B, ?_⟩⟩
      rw [h3, List.append_assoc, List.cons_append]
      have f2 : feet (L ++ (some v, .un) :: (R ++ (τ ++ [(some v, y)]))) = feet L ++ (feet R ++ (feet τ ++ y.foot)) := by
        rw [feet_split, feet_append, feet_append, feet_one]
        show feet L ++ ([] ++ _) = _
        rw [List.nil_append]
      have f1 : feet (L ++ (some v, y) :: (R ++ τ)) = feet L ++ (y.foot ++ (feet R ++ feet τ)) := by rw [feet_split, feet_append]
      have pm : (feet (L ++ (some v, .un) :: (R ++ (τ ++ [(some v, y)])))).Perm (feet (L ++ (some v, y) :: (R ++ τ))) := by
        rw [f1, f2]
        refine List.Perm.append_left _ ?_
        have p1 : (y.foot ++ (feet R ++ feet τ)).Perm ((feet R ++ feet τ) ++ y.foot) := List.perm_append_comm
        rw [List.append_assoc] at p1
        exact p1.symm
      refine ⟨hr.lo, hr.hi, hr.fr, hr.nw, fun r hm => ?_, pm.nodup_iff.mpr hr.nd, fun p hp => hr.ap p (pm.mem_iff.mp hp), hr.st⟩
      rcases List.mem_append.mp hm with hm | hm
      · exact hr.rep r (List.mem_append_left _ hm)
      · rcases List.mem_cons.mp hm with rfl | hm
        · trivial
        · rcases List.mem_append.mp hm with hm | hm
          · exact hr.rep r (List.mem_append_right _ (List.mem_cons_of_mem _ (List.mem_append_left _ hm)))
          · rcases List.mem_append.mp hm with hm | hm
            · exact hr.rep r (List.mem_append_right _ (List.mem_cons_of_mem _ (List.mem_append_right _ hm)))
            · have e : r = (some v, y) := by simpa using hm
              subst e
              exact hr.rep _ (by simp)
end
/-! ### isinstance(x, C), C an own class -/
structure OwnK (K : PySem.W.Frag) (mg : Str → Option Value) (c : Str) : Prop where
  mg : mg c = some (.ref (He.ga K c))
  ink : InK K (He.ga K c)
  self : PySem.W.kitOne K (.ref (He.ga K c)) (.ref (He.ga K c)) = some true
  tys : ∀ t ∈ ["NoneType", "bool", "int", "str", "list", "tuple", "dict"], PySem.W.kitOne K (.type t) (.ref (He.ga K c)) = some false
  own : ∀ t ∈ ["bool", "int", "str", "list", "tuple"], PySem.W.kitOne K (.ref (He.ga K c)) (.type t) = some false
def isOwn (c : Str) : D → Option Bool
  | .ins c' _ _ => if c' = c then some true else none
  | .non => some false | .bl _ => some false | .int _ => some false | .str _ => some false | .lst _ => some false | .tup _ => some false | .dic _ _ => some false
  | _ => none
theorem OwnK.is {K : PySem.W.Frag} {mg : Str → Option Value} {c : Str} (o : OwnK K mg c) : ∀ d b, isOwn c d = some b → Isi K d (.ref (He.ga K c)) b := by
  intro d b h
  cases d with
  | ins c' fs ds =>
    have h2 : (if c' = c then some true else none) = some b := h
    by_cases e : c' = c
    · rw [if_pos e] at h2; cases h2; rw [e]; exact ⟨o.ink, o.self⟩
    · rw [if_neg e] at h2; cases h2
  | non => cases h; exact ⟨_, rfl, o.tys _ (by decide)⟩
  | bl _ => cases h; exact ⟨_, rfl, o.tys _ (by decide)⟩
  | int _ => cases h; exact ⟨_, rfl, o.tys _ (by decide)⟩
  | str _ => cases h; exact ⟨_, rfl, o.tys _ (by decide)⟩
  | lst _ => cases h; exact ⟨_, rfl, o.tys _ (by decide)⟩
  | tup _ => cases h; exact ⟨_, rfl, o.tys _ (by decide)⟩
  | dic _ _ => cases h; exact ⟨_, rfl, o.tys _ (by decide)⟩
  | _ => cases h
end DL
set_option Elab.async false
set_option maxRecDepth 100000
set_option maxHeartbeats 4000000
set_option linter.unusedVariables false
/-! data-level layer, part Mg: own classes: what the top leaves, promises of their members -/
namespace DL
open PySem PySem.Spec PyProof.Rows L2 NdefX He
/-- where a property's getter stands -/
def gAd (K : PySem.W.Frag) (c f : Str) : Addr := match PySem.W.recIn K (ma K (ga K c) f) "property" with
  | some (.ref g :: _) => g
  | _ => 0
/-- a member of a class: a method, a property's getter -/
structure MemD where
  c : Str
  f : Str
  get : Bool
  name : Str
  qual : Str
  params : Arguments
  body : List Stmt
  scope : Scope
  kwd : List (Str × Dv)
def MemD.kws (K : PySem.W.Frag) (m : MemD) : List (Str × V) := m.kwd.map fun q => (q.1, q.2.v K)
def MemD.ad (K : PySem.W.Frag) (m : MemD) : Addr := if m.get = true then gAd K m.c m.f else ma K (ga K m.c) m.f
def fnVa (K : PySem.W.Frag) (a : Addr) : FnV := match K.lookup a with
  | some ⟨_, _, .func fd, _⟩ => some (fd.name, fd.qualname, fd.params, fd.body, fd.scope, fd.globals, fd.closure.map (·.1), fd.builtins)
  | _ => none
def MemD.val (m : MemD) : FnV := some (m.name, m.qual, m.params, .stmts m.body, m.scope, mainGlobals, [], builtinsNs)
def MemD.ok (K : PySem.W.Frag) (m : MemD) : Bool := PySem.W.keepIn K (.ref (m.ad K)) && (match K.lookup (m.ad K) with
  | some ⟨_, _, .func fd, _⟩ => PySem.W.codeIn K fd.code m.qual && (dflB K fd.defaults [] && kwdB K fd.kwdefaults (m.kws K))
  | _ => false)
theorem MemD.funD {K : PySem.W.Frag} {m : MemD} (e : fnVa K (m.ad K) = m.val) (c : m.ok K = true) : ∃ fd, FunD K m.name m.qual m.params m.body m.scope [] (m.kws K) (m.ad K) fd := by
  unfold MemD.ok at c
  rw [Bool.and_eq_true] at c
  obtain ⟨kp, c2⟩ := c
  unfold fnVa at e
  split at e
  case h_2 => cases e
  rename_i oc od fd osl q
  rw [q] at c2
  have c3 : (PySem.W.codeIn K fd.code m.qual && (dflB K fd.defaults [] && kwdB K fd.kwdefaults (m.kws K))) = true := c2
  simp only [Bool.and_eq_true] at c3
  obtain ⟨k1, k2, k3⟩ := c3
  obtain ⟨y1, y2, y3, y4, y5, y6, y7, y8, y9, y10, y11, y12, y13, y14, y15⟩ := fd
  have e2 : (some (y1, y2, y3, y4, y5, y6, y7.map (·.1), y15) : FnV) = some (m.name, m.qual, m.params, .stmts m.body, m.scope, mainGlobals, [], builtinsNs) := e
  simp only [Option.some.injEq, Prod.mk.injEq] at e2
  obtain ⟨h1, h2, h3, h4, h5, h6, h7, h8⟩ := e2
  have h9 : y7 = [] := List.map_eq_nil_iff.mp h7
  subst h1 h2 h3 h4 h5 h6 h8 h9
  exact ⟨_, ⟨oc, od, y8, y9, y10, y11, y12, y13, y14, osl, rfl, q, k1, dflB_ok k2, kwdB_ok k3⟩, kp⟩
/-! ### the Hook -/
def obsY (ck : PySem.W.Frag → Bool) (fn : List DefV) (ms : List MemD) (K : PySem.W.Frag) : AlP := ((ck K && ms.all fun m => m.ok K) && fn.all fun d => d.ok K, fn.map (fun d => fnV K d.d.at_) ++ ms.map fun m => fnVa K (m.ad K))
def valY (fn : List DefV) (ms : List MemD) : AlP := (true, fn.map DefV.val ++ ms.map MemD.val)
def SaysY (ck : PySem.W.Frag → Bool) (fn : List DefV) (ms : List MemD) (K : PySem.W.Frag) : Prop := obsY ck fn ms K = valY fn ms
section
variable {ck : PySem.W.Frag → Bool} {fn : List DefV} {ms : List MemD} {K : PySem.W.Frag}
theorem SaysY.one (c : SaysY ck fn ms K) : ((ck K && ms.all fun m => m.ok K) && fn.all fun d => d.ok K) = true := congrArg (fun z : AlP => z.1) c
theorem SaysY.two (c : SaysY ck fn ms K) : fn.map (fun d => fnV K d.d.at_) ++ ms.map (fun m => fnVa K (m.ad K)) = fn.map DefV.val ++ ms.map MemD.val := congrArg (fun z : AlP => z.2) c
theorem SaysY.says (c : SaysY ck fn ms K) : SaysP ck fn K := by
  have c1 := c.one
  have c2 := (List.append_inj c.two (by rw [List.length_map, List.length_map])).1
  simp only [Bool.and_eq_true] at c1
  show (ck K && fn.all fun d => d.ok K, fn.map fun d => fnV K d.d.at_) = (true, fn.map DefV.val)
  rw [c2, c1.1.1, c1.2]; rfl
theorem SaysY.mem (c : SaysY ck fn ms K) (i : Nat) {m : MemD} (h : ms[i]? = some m := by rfl) : ∃ fd, FunD K m.name m.qual m.params m.body m.scope [] (m.kws K) (m.ad K) fd := by
  have c1 := c.one
  have c2 := (List.append_inj c.two (by rw [List.length_map, List.length_map])).2
  simp only [Bool.and_eq_true] at c1
  have e2 : (ms.map fun m => fnVa K (m.ad K))[i]? = (ms.map MemD.val)[i]? := by rw [c2]
  rw [List.getElem?_map, List.getElem?_map, h] at e2
  exact MemD.funD (Option.some.inj e2) (List.all_eq_true.mp c1.1.2 _ (List.mem_of_getElem? h))
end
/-! ### checks of classes -/
def ownB (K : PySem.W.Frag) (c : Str) : Bool :=
  (Fa.glo c).ok K && ((Fa.cls c).ok K && ((Fa.mkr c).ok K && (eqO (PySem.W.findIn K (.ref (ga K c)) "__class__") (some (some (.builtin "object.__class__"))) && (eqO (PySem.W.specialIn K (.builtin "object.__class__") "__get__") (some (some (.builtin "getset_descriptor.__get__"))) &&
  (decide (PySem.W.takesIn K (.builtin "object.__class__") = some true) && (decide (PySem.W.mroIn K (ga K c) (.type "object") = some true) && (decide (PySem.W.kitOne K (.ref (ga K c)) (.ref (ga K c)) = some true) && (PySem.W.selfFirst K (ga K c) &&
  ((["NoneType", "bool", "int", "str", "list", "tuple", "dict"].all fun t => decide (PySem.W.kitOne K (.type t) (.ref (ga K c)) = some false)) && (["bool", "int", "str", "list", "tuple"].all fun t => decide (PySem.W.kitOne K (.ref (ga K c)) (.type t) = some false)))))))))))
theorem ownB_ok {K : PySem.W.Frag} {h : Heap} {mg : Str → Option Value} {c : Str} (X : K.In h) (G : h.Ns mainGlobals mg) (o : ownB K c = true) : OwnK K mg c ∧ Cls K (ga K c) ∧ Mk K (ga K c) (ma K (ga K c) "__init__") ∧ PySem.W.selfFirst K (ga K c) = true := by
  unfold ownB at o
  simp only [Bool.and_eq_true] at o
  obtain ⟨a1, a2, a3, a4, a5, a6, a7, a8, a9, a10, a11⟩ := o
  exact ⟨⟨glo_ok X G a1, ⟨cls_ok a2, eqO_ok a4, eqO_ok a5, of_decide_eq_true a6, of_decide_eq_true a7⟩, of_decide_eq_true a8, fun t ht => of_decide_eq_true (List.all_eq_true.mp a10 t ht), fun t ht => of_decide_eq_true (List.all_eq_true.mp a11 t ht)⟩, cls_ok a2, mkr_ok a3, a9⟩
def memB (K : PySem.W.Frag) (m : MemD) : Bool := if m.get = true then
    eqO (PySem.W.findIn K (.ref (ga K m.c)) m.f) (some (some (.ref (ma K (ga K m.c) m.f)))) && (eqO (PySem.W.specialIn K (.ref (ma K (ga K m.c) m.f)) "__get__") (some (some (.builtin "property.__get__"))) && (decide (PySem.W.takesIn K (.ref (ma K (ga K m.c) m.f)) = some true) &&
      (match PySem.W.recIn K (ma K (ga K m.c) m.f) "property" with | some (.ref _ :: _) => true | _ => false)))
  else (Fa.meth m.c m.f).ok K && PySem.W.fnIn K (ma K (ga K m.c) m.f)
theorem memB_get {K : PySem.W.Frag} {m : MemD} (h : memB K m = true) (g : m.get = true) : PropOf K (ga K m.c) m.f (ma K (ga K m.c) m.f) (m.ad K) := by
  unfold memB at h
  rw [if_pos g] at h
  simp only [Bool.and_eq_true] at h
  obtain ⟨h1, h2, h3, h4⟩ := h
  have ea : m.ad K = gAd K m.c m.f := if_pos g
  refine ⟨eqO_ok h1, eqO_ok h2, of_decide_eq_true h3, ?_⟩
  rw [ea]
  unfold gAd
  cases q : PySem.W.recIn K (ma K (ga K m.c) m.f) "property" with
  | none => rw [q] at h4; cases h4
  | some l =>
    rw [q] at h4
    cases l with
    | nil => cases h4
    | cons v r => cases v <;> first | exact ⟨r, rfl⟩ | cases h4
theorem memB_meth {K : PySem.W.Frag} {m : MemD} (h : memB K m = true) (g : m.get = false) : Meth K (ga K m.c) m.f (m.ad K) ∧ PySem.W.fnIn K (m.ad K) = true := by
  have ng : ¬ m.get = true := by rw [g]; exact Bool.false_ne_true
  unfold memB at h
  rw [if_neg ng] at h
  simp only [Bool.and_eq_true] at h
  have ea : m.ad K = ma K (ga K m.c) m.f := if_neg ng
  rw [ea]
  exact ⟨meth_ok h.1, h.2⟩
/-! ### promises of members -/
section
variable {P : Program} {w : World} {K : PySem.W.Frag} {mg : Str → Option Value} {base : Heap} {x qual : Str} {params : Arguments} {body : List Stmt} {scope : Scope} {f : Addr} {fd : FuncData} {N ps : List Str} {k n : Nat} {W : DW1} {c m : Str}
theorem fdm_ok (hW : MonoW W) (C : Cls K (ga K c)) (M : Meth K (ga K c) m f) (F : FunD K x qual params body scope [] [] f fd) (S : FnScope N ps scope) (hn : ps.length = n) (hlen : ∀ ds Q E, W ds Q E → ds.length = ps.length)
    (hbd : ∀ (kV doc pm : Value) (an : Option Addr) (cdv ct : Value) (us : List Value), us.length = ps.length → bindArgs (PySem.W.fnOf x qual params body scope .none kV doc pm an cdv ct) ⟨us, []⟩ = pure (ps.zip us))
    (hb : ∀ (cdv : Value) (A : Around) (outer : List Env) (s : Shared) (H : Hp) (E : XK) (so : Option Addr) (B : Hp), Room k (A.deeper (envOfC qual scope s.heap.objs.size f cdv)) →
      L2N.Takes (cxD P w K mg base N qual scope f cdv A outer s H E) (fun cls d _ H => E cls d H) →
      ∃ wb, DSs ⟨K, so, B, H, fun _ => E⟩ (cxD P w K mg base N qual scope f cdv A outer s H E) body wb ∧ ∀ ds Q E', W ds Q E' → wb (bodyEnds Q) (entry N.length ds) (fun e _ => E' e)) :
    FDm P w K mg base (k + 1) c m n W := by
  subst hn
  exact ⟨hW, f, fd, ps, C, M, fn_body F S hlen hb, F.bindsN hbd⟩
theorem fdg_ok {p : Addr} (hW : MonoW W) (C : Cls K (ga K c)) (M : PropOf K (ga K c) m p f) (F : FunD K x qual params body scope [] [] f fd) (S : FnScope N ps scope) (hn : ps.length = 1) (hlen : ∀ ds Q E, W ds Q E → ds.length = ps.length)
    (hbd : ∀ (kV doc pm : Value) (an : Option Addr) (cdv ct : Value) (us : List Value), us.length = ps.length → bindArgs (PySem.W.fnOf x qual params body scope .none kV doc pm an cdv ct) ⟨us, []⟩ = pure (ps.zip us))
    (hb : ∀ (cdv : Value) (A : Around) (outer : List Env) (s : Shared) (H : Hp) (E : XK) (so : Option Addr) (B : Hp), Room k (A.deeper (envOfC qual scope s.heap.objs.size f cdv)) →
      L2N.Takes (cxD P w K mg base N qual scope f cdv A outer s H E) (fun cls d _ H => E cls d H) →
      ∃ wb, DSs ⟨K, so, B, H, fun _ => E⟩ (cxD P w K mg base N qual scope f cdv A outer s H E) body wb ∧ ∀ ds Q E', W ds Q E' → wb (bodyEnds Q) (entry N.length ds) (fun e _ => E' e)) :
    FDg P w K mg base (k + 1) c m W := by
  have q := fn_body (W := W) F S hlen hb
  rw [hn] at q
  exact ⟨hW, p, f, fd, ps, C, M, q, F.bindsN hbd⟩
end
end DL
set_option Elab.async false
set_option maxRecDepth 100000
set_option maxHeartbeats 4000000
set_option linter.unusedVariables false
/-! data-level layer, part Mh: loops over a list or a tuple, an __init__ as a printer takes it -/
namespace DL
open PySem PySem.Spec PyProof.Rows L2 NdefX He
def iLT (K : PySem.W.Frag) (tl : TE) : TI := fun σ H R => tl σ H fun x H1 => ∃ a, x = .ref a ∧ (((∃ xs, SqL K H1 a xs) ∧ R (Itl K a) H1) ∨ ((∃ xs, SqT K H1 a xs) ∧ R (Itt K a) H1))
theorem pi_lt {X : Cx} {tg l : Expr} {tl : TE} (hl : PE X l tl) : PI X tg l (iLT X.K tl) := by
  refine ⟨fun pins s σ H R I h => ?_⟩
  refine thn (hl.run pins s σ H _ I h) fun v s1 ⟨x, H1, I1, r1, q1⟩ => ?_
  obtain ⟨a, e, q⟩ := q1
  subst e
  cases r1
  have fpk : ∀ b ∈ [s1.heap.objs.size], FpOk X pins H1 b := fun b hb => by
    have e : b = s1.heap.objs.size := by simpa using hb
    subst e
    exact I1.fpOk (Nat.le_refl _) (I1.hok.fresh (Nat.le_refl _))
  rcases q with ⟨⟨xs, hq⟩, q⟩ | ⟨⟨xs, hq⟩, q⟩
  · obtain ⟨its, rv, p, hz⟩ := I1.list hq
    refine wpAny_pyIter_list p.isList ?_
    exact ⟨s1.heap.objs.size, [s1.heap.objs.size], _, _, H1, rfl, I1.kept (t' := s1.toks) fun b o e => Heap.get?_push_of_some _ e, turn_list a _, ⟨_, Heap.get?_push_size _ rfl, rfl, rfl⟩, fpk, q⟩
  · obtain ⟨its, rv, p, hz⟩ := I1.tuple hq
    refine wpAny_pyIter_tuple (show s1.heap.IsTuple a its.toArray from p) ?_
    exact ⟨s1.heap.objs.size, [s1.heap.objs.size], _, _, H1, rfl, I1.kept (t' := s1.toks) fun b o e => Heap.get?_push_of_some _ e, turn_tuple a _, ⟨_, Heap.get?_push_size _ rfl, rfl, rfl⟩, fpk, q⟩
def wItemsLT (w : DT Sl) : DT (List D) := fun ρ Q E => w ρ (fun x ρ1 => match x.dat with
  | .lst ds => Q ds ρ1
  | .tup ds => Q ds ρ1
  | _ => False) E
theorem wItemsLT_mono {w : DT Sl} (h : Mono w) : Mono (wItemsLT w) := fun _ _ _ _ _ hq he q => h (fun x ρ1 k => by
  split at k
  · exact hq _ _ k
  · exact hq _ _ k
  · exact k.elim) he q
theorem di_lt {G : Gx} {X : Cx} {tg l : Expr} {w : DT Sl} (hK : G.K = X.K) (h : DE G X l w) : DI G X tg l (wItemsLT w) := by
  refine ⟨wItemsLT_mono h.mono, _, pi_lt h.pe, fun σ H R q => ?_⟩
  obtain ⟨ρ, τ, hA, hw⟩ := q
  refine ⟨ρ, τ, hA, h.mono (fun x ρ1 k nx l1 v H1 A1 => ?_) (fun _ _ k => k) hw⟩
  obtain ⟨B, h1, h2⟩ := A1.still nx
  split at k
  · rename_i ds e
    rw [e] at h1
    cases h1 with
    | @lst a vs _ hs hv =>
      refine ⟨a, rfl, .inl ⟨⟨_, .inl (.inl (h2.hi _ _ hs))⟩, ?_⟩⟩
      rw [← hK]
      exact k l1 _ _ H1 (At.addSh A1.len h2 (.lst hs hv)) srv_list
  · rename_i ds e
    rw [e] at h1
    cases h1 with
    | @tup a vs _ hs hv =>
      refine ⟨a, rfl, .inr ⟨⟨_, hK ▸ sqT_same h2.hi hs⟩, ?_⟩⟩
      rw [← hK]
      exact k l1 _ _ H1 (At.addSh A1.len h2 (.tup hs hv)) srv_tup
  · exact k.elim
/-! ### an __init__ -/
structure DIs (G : Gx) (X : Cx) (a dx C : Addr) (body : List Stmt) (r : DIb) : Prop where
  mono : MonoIb r
  ps : PSs X body (tI G a dx C r)
section
variable {G : Gx} {X : Cx} {a dx C : Addr} {st : Stmt} {rest : List Stmt} {w : DS} {r : DIb}
theorem dis_end : DIs G X a dx C [] iEnd := ⟨iEnd_mono, in_end⟩
theorem dis_stm (hso : G.so ≠ some a) (hs : ∀ B H, DSt ⟨G.K, G.so, B, H, G.EX⟩ X st w) (hr : DIs G X a dx C rest r) : DIs G X a dx C (st :: rest) (iStm w r) := ⟨iStm_mono (hs (fun _ => none) (fun _ => none)).mono hr.mono, in_stm hs hso hr.ps⟩
theorem dis_fld {c f self : Str} {e : Expr} {we : DT Sl} {p p1 p2 : Pos} (hC : Cls X.K C) (hf : NoAttr X.K C f) (hso : G.so ≠ some a) (hcut : G.H0 a = none) (he : ∀ B H, DE ⟨G.K, G.so, B, H, G.EX⟩ X e we) (hr : DIs G X a dx C rest r) (hN : X.N[0]? = some self := by rfl) (hv : Vis X.env.scope self := by first | exact Or.inl rfl | exact Or.inr (Or.inl rfl) | exact Or.inr (Or.inr rfl))
    (hs : swapsWith e (some (.Attribute (.Name self p) f p1)) p2.line X.env = pure false := by rfl) (hd : (self == ("__debug__" : Str)) = false := by decide) (hcd : (self == ("__classdict__" : Str)) = false := by decide) :
    DIs G X a dx C (.Assign [.Attribute (.Name self p) f p1] e p2 :: rest) (iFld G.K c f we r) := ⟨iFld_mono (he (fun _ => none) (fun _ => none)).mono hr.mono, in_fld hC hf he hso hcut hN hv hs hr.ps hd hcd⟩
end
section
variable {P : Program} {w : World} {K : PySem.W.Frag} {mg : Str → Option Value} {base : Heap} {x qual c : Str} {params : Arguments} {body : List Stmt} {scope : Scope} {f : Addr} {fd : FuncData}
theorem fdi_ok2 {N ps : List Str} {k n : Nat} {W : DW1} {wb : DIb} (hW : MonoW W) (hm : mg c = some (.ref (He.ga K c))) (M : Mk K (He.ga K c) f) (F : FunD K x qual params body scope [] [] f fd) (S : FnScope N ps scope) (hps : ps.length = n + 1) (hlen : ∀ ds Q E, W ds Q E → ds.length = n)
    (hbd : ∀ (kV doc pm : Value) (an : Option Addr) (cdv ct : Value) (us : List Value), us.length = ps.length → bindArgs (PySem.W.fnOf x qual params body scope .none kV doc pm an cdv ct) ⟨us, []⟩ = pure (ps.zip us))
    (hb : ∀ (cdv : Value) (A : Around) (outer : List Env) (s : Shared) (H : Hp) (E : XK), Room k (A.deeper (envOfC qual scope s.heap.objs.size f cdv)) →
      L2N.Takes (cxD P w K mg base N qual scope f cdv A outer s H E) (fun cls d _ H => E cls d H) →
      ∀ (so : Option Addr) (B H0 : Hp) (a dx : Addr), so ≠ some a → H0 a = none → DIs ⟨K, so, B, H0, fun _ => E⟩ (cxD P w K mg base N qual scope f cdv A outer s H E) a dx (He.ga K c) body wb)
    (hq : ∀ a ds Q E', W ds Q E' → wb a [] [] (entry N.length (selfD K c a :: ds)) (fun fs ds => Q (.sh (.ins c fs ds))) E') :
    FDi P w K mg base (k + 1) c n W :=
  fdi_ok hW hm M F S hps hlen hbd fun cdv A outer s H E hr tk => ⟨wb, (hb cdv A outer s H E hr tk none (fun _ => none) (fun _ => none) 0 0 (fun z => by cases z) rfl).mono, fun so B H0 a dx h1 h2 => (hb cdv A outer s H E hr tk so B H0 a dx h1 h2).ps, hq⟩
end
end DL
set_option Elab.async false
set_option maxRecDepth 100000
set_option maxHeartbeats 4000000
set_option linter.unusedVariables false
/-! data-level layer, part Mj: an own class with a keyword-only None, instances among the bad values, a global's second name -/
namespace DL
open PySem PySem.Spec PyProof.Rows L2 NdefX He
/-! ### a def that stands at another name -/
theorem glosA_of {K : PySem.W.Frag} {mg : Str → Option Value} {h : Heap} {fn : List DefV} (X : K.In h) (G : h.Ns mainGlobals mg) (c : ((fn.filter fun d => d.free.isEmpty).all fun d => (Fa.glo d.d.at_.1).ok K) = true) (i : Nat) {d : DefD} (e : fn[i]? = some ⟨d, []⟩) : mg d.at_.1 = some (.ref (ga K d.at_.1)) :=
  glo_ok X G (List.all_eq_true.mp c _ (List.mem_filter.mpr ⟨List.mem_of_getElem? e, rfl⟩))
/-! ### a class whose __init__ has one keyword-only parameter, None if it lacks -/
/-- W's last argument is the None that lacks -/
def lackN (W : DW1) : DW1 := fun ds Q E => W (ds ++ [.non]) Q E
theorem Rps.snoc {K : PySem.W.Frag} {so : Option Addr} {B : Hp} : ∀ {vs : List V} {ds : List D} {v : V} {d : D}, Rps K so B vs ds → Rp K so B v d → Rps K so B (vs ++ [v]) (ds ++ [d])
  | _, _, _, _, .nil, h => .cons h .nil
  | _, _, _, _, .cons a b, h => .cons a (Rps.snoc b h)
section
variable {G : Gx} {X : Cx} {e : Expr} {es : List Expr} {wr : DT (List Sl)} {p pos : Pos} {c : Str} {k n : Nat} {W : DW1}
end
section
variable {P : Program} {w : World} {K : PySem.W.Frag} {mg : Str → Option Value} {base : Heap} {x qual c : Str} {params : Arguments} {body : List Stmt} {scope : Scope} {f : Addr} {fd : FuncData}
end
/-! ### promises of defs that stand at another name -/
section
variable {P : Program} {w : World} {K : PySem.W.Frag} {mg : Str → Option Value} {base : Heap} {x y qual : Str} {params : Arguments} {body : List Stmt} {scope : Scope} {f : Addr} {fd : FuncData}
theorem fdA_ok {N ps : List Str} {k : Nat} {W : DW1} (hW : MonoW W) (F : FunD K x qual params body scope [] [] f fd) (S : FnScope N ps scope) (hm : mg y = some (.ref f)) (hlen : ∀ ds Q E, W ds Q E → ds.length = ps.length)
    (hbd : ∀ (kV doc pm : Value) (an : Option Addr) (cdv ct : Value) (us : List Value), us.length = ps.length → bindArgs (PySem.W.fnOf x qual params body scope .none kV doc pm an cdv ct) ⟨us, []⟩ = pure (ps.zip us))
    (hb : ∀ (cdv : Value) (A : Around) (outer : List Env) (s : Shared) (H : Hp) (E : XK) (so : Option Addr) (B : Hp), Room k (A.deeper (envOfC qual scope s.heap.objs.size f cdv)) →
      L2N.Takes (cxD P w K mg base N qual scope f cdv A outer s H E) (fun cls d _ H => E cls d H) →
      ∃ wb, DSs ⟨K, so, B, H, fun _ => E⟩ (cxD P w K mg base N qual scope f cdv A outer s H E) body wb ∧ ∀ ds Q E', W ds Q E' → wb (bodyEnds Q) (entry N.length ds) (fun e _ => E' e)) :
    FD P w K mg base (k + 1) y ps.length W := ⟨hW, f, fd, ps, rfl, hm, F.kp, fn_body F S hlen hb, F.bindsN hbd⟩
end
/-! ### instances among the values that are asked of -/
def insF (ok : Str → Bool) (f : D → Option Bool) : D → Option Bool
  | .ins c _ _ => if ok c = true then some false else none
  | d => f d
theorem insF_ok {K : PySem.W.Frag} {ok : Str → Bool} {f : D → Option Bool} {u : Value} (O : ∀ c, ok c = true → InK K (He.ga K c) ∧ PySem.W.kitOne K (.ref (He.ga K c)) u = some false) (h : ∀ d b, f d = some b → Isi K d u b) : ∀ d b, insF ok f d = some b → Isi K d u b := by
  intro d b e
  cases d with
  | ins c fs ds =>
    have e2 : (if ok c = true then some false else none) = some b := e
    by_cases hc : ok c = true
    · rw [if_pos hc] at e2; cases e2; exact O c hc
    · rw [if_neg hc] at e2; cases e2
  | _ => exact h _ _ e
def isOwnX (ok : Str → Bool) (c : Str) : D → Option Bool
  | .ins c' fs ds => if c' = c then some true else if ok c' = true then some false else none
  | d => isOwn c d
theorem isOwnX_ok {K : PySem.W.Frag} {mg : Str → Option Value} {ok : Str → Bool} {c : Str} (o : OwnK K mg c) (O : ∀ c', ok c' = true → InK K (He.ga K c')) (Z : ∀ c', ok c' = true → c' ≠ c → PySem.W.kitOne K (.ref (He.ga K c')) (.ref (He.ga K c)) = some false) : ∀ d b, isOwnX ok c d = some b → Isi K d (.ref (He.ga K c)) b := by
  intro d b e
  cases d with
  | ins c' fs ds =>
    have e2 : (if c' = c then some true else if ok c' = true then some false else none) = some b := e
    by_cases hc : c' = c
    · rw [if_pos hc] at e2; cases e2; subst hc; exact ⟨o.ink, o.self⟩
    · rw [if_neg hc] at e2
      by_cases ho : ok c' = true
      · rw [if_pos ho] at e2; cases e2; exact ⟨O c' ho, Z c' ho hc⟩
      · rw [if_neg ho] at e2; cases e2
  | _ => exact o.is _ _ e
/-- what is known of the classes whose instances are among the values -/
structure InsK (K : PySem.W.Frag) (ok : Str → Bool) : Prop where
  ink : ∀ c, ok c = true → InK K (He.ga K c)
  own : ∀ c, ok c = true → ∀ t ∈ ["bool", "int", "str", "list", "tuple"], PySem.W.kitOne K (.ref (He.ga K c)) (.type t) = some false
  cross : ∀ c, ok c = true → ∀ c', ok c' = true → c' ≠ c → PySem.W.kitOne K (.ref (He.ga K c')) (.ref (He.ga K c)) = some false
theorem InsK.int {K : PySem.W.Frag} {ok : Str → Bool} (h : InsK K ok) : ∀ d b, insF ok isInt d = some b → Isi K d (.type "int") b := insF_ok (fun c hc => ⟨h.ink c hc, h.own c hc _ (by decide)⟩) isInt_ok
theorem InsK.bool {K : PySem.W.Frag} {ok : Str → Bool} (h : InsK K ok) : ∀ d b, insF ok isBool d = some b → Isi K d (.type "bool") b := insF_ok (fun c hc => ⟨h.ink c hc, h.own c hc _ (by decide)⟩) isBool_ok
theorem InsK.str {K : PySem.W.Frag} {ok : Str → Bool} (h : InsK K ok) : ∀ d b, insF ok isStr d = some b → Isi K d (.type "str") b := insF_ok (fun c hc => ⟨h.ink c hc, h.own c hc _ (by decide)⟩) isStr_ok
theorem InsK.lst {K : PySem.W.Frag} {ok : Str → Bool} (h : InsK K ok) : ∀ d b, insF ok isLst d = some b → Isi K d (.type "list") b := insF_ok (fun c hc => ⟨h.ink c hc, h.own c hc _ (by decide)⟩) isLst_ok
theorem InsK.tup {K : PySem.W.Frag} {ok : Str → Bool} (h : InsK K ok) : ∀ d b, insF ok isTup d = some b → Isi K d (.type "tuple") b := insF_ok (fun c hc => ⟨h.ink c hc, h.own c hc _ (by decide)⟩) isTup_ok
theorem InsK.cls {K : PySem.W.Frag} {mg : Str → Option Value} {ok : Str → Bool} (h : InsK K ok) {c : Str} (o : OwnK K mg c) (hc : ok c = true) : ∀ d b, isOwnX ok c d = some b → Isi K d (.ref (He.ga K c)) b := isOwnX_ok o h.ink (h.cross c hc)
/-- the check of it -/
def insB (K : PySem.W.Frag) (cs : List Str) : Bool := cs.all fun c => cs.all fun c' => c' == c || decide (PySem.W.kitOne K (.ref (ga K c')) (.ref (ga K c)) = some false)
theorem insB_ok {K : PySem.W.Frag} {mg : Str → Option Value} {cs : List Str} {ok : Str → Bool} (h : insB K cs = true) (hc : ∀ c, ok c = true → c ∈ cs) (O : ∀ c ∈ cs, OwnK K mg c) : InsK K ok :=
  ⟨fun c k => (O c (hc c k)).ink, fun c k => (O c (hc c k)).own, fun c k c' k' ne => by
    have h1 := List.all_eq_true.mp (List.all_eq_true.mp h c (hc c k)) c' (hc c' k')
    rw [Bool.or_eq_true] at h1
    rcases h1 with h1 | h1
    · exact absurd (beq_iff_eq.mp h1) ne
    · exact of_decide_eq_true h1⟩
end DL
set_option Elab.async false
set_option maxRecDepth 100000
set_option maxHeartbeats 4000000
set_option linter.unusedVariables false
/-! data-level layer, part s: slices of lists -/
namespace DL
open PySem PySem.Spec PyProof.Rows L2 NdefX
def cutD (ds : List D) (lo hi : Option Int) : List D := (ds.drop (HT.sIx ds.length 0 lo)).take (HT.sIx ds.length ds.length hi - HT.sIx ds.length 0 lo)
theorem Rps.cut {K : PySem.W.Frag} {so : Option Addr} {B : Hp} {vs : List V} {ds : List D} (h : Rps K so B vs ds) (lo hi : Option Int) : Rps K so B (cutV vs lo hi) (cutD ds lo hi) := by
  unfold cutV cutD
  rw [h.len]
  exact (h.drop _).take _
/-- a[:e] -/
def wSlTo (wa we : DT Sl) : DT Sl := fun ρ Q E => wa ρ (fun x ρ1 => we ρ1 (fun y ρ2 => match x.dat, y.dat with
  | .lst ds, .int k => ∀ p, Q (.ow p (cutD ds none (some k))) ρ2
  | _, _ => False) E) E
/-- a[e:] -/
def wSlFrom (wa we : DT Sl) : DT Sl := fun ρ Q E => wa ρ (fun x ρ1 => we ρ1 (fun y ρ2 => match x.dat, y.dat with
  | .lst ds, .int k => ∀ p, Q (.ow p (cutD ds (some k) none)) ρ2
  | _, _ => False) E) E
theorem wSlTo_mono {wa we : DT Sl} (ha : Mono wa) (he : Mono we) : Mono (wSlTo wa we) := fun _ _ _ _ _ hq h2 q => ha (fun x ρ1 k => he (fun y ρ2 k => by
  split at k
  · exact fun p => hq _ _ (k p)
  · exact k.elim) h2 k) h2 q
section
variable {G : Gx} {X : Cx} {a e : Expr} {wa we : DT Sl} {pos p2 : Pos}
theorem sl_step {σ : St} {ρ2 : DEnv} {τ : Roots} {H2 : Hp} {Q : VK} {v u : V} {x y : Sl} {lo hi : Option Int} {ds : List D} {i : Int} (hK : G.K = X.K) (ny : y ≠ .un) (A2 : At G σ ρ2 (τ ++ [(some v, .sh x.dat)] ++ [(some u, y)]) H2) (ex : x.dat = .lst ds) (ey : y.dat = .int i)
    (k : ∀ p H', At G σ ρ2 (τ ++ [(some (.ref p), .ow p (cutD ds lo hi))]) H' → Q (.ref p) H') : u = .int i ∧ rSlL X.K v lo hi H2 Q := by
  obtain ⟨B2, g1, g2⟩ := A2.still ny
  rw [ey] at g1
  have z := g2.rep (some v, .sh x.dat) (by simp)
  rw [ex] at z
  have z : Rp G.K G.so B2 v (.lst ds) := z
  refine ⟨by cases g1; rfl, ?_⟩
  cases z with
  | @lst p0 vs _ hs hr =>
    refine ⟨p0, vs, rfl, .inl (.inl (g2.hi _ _ hs)), fun p hp => k p _ (At.addOw A2.len (g2.sublist ?_) hp (hr.cut lo hi))⟩
    rw [← List.append_assoc]
    exact List.sublist_append_left _ _
theorem de_slTo (hK : G.K = X.K) (ha : DE G X a wa) (he : DE G X e we) : DE G X (.Subscript a (.Slice none (some e) none p2) pos) (wSlTo wa we) := by
  refine ⟨wSlTo_mono ha.mono he.mono, pe_weak (pe_slice sl_list ha.pe po_none (po_some he.pe)) fun σ H Q h => ?_⟩
  obtain ⟨ρ, τ, hA, hw⟩ := h
  refine ⟨ρ, τ, hA, ha.mono (fun x ρ1 k nx l v H1 A1 => ?_) (fun _ _ e => e) hw⟩
  obtain ⟨B, h2⟩ := A1.freezeLast nx
  refine ⟨ρ1, _, ⟨A1.len, B, h2⟩, he.mono (fun y ρ2 k2 ny l2 u H2 A2 => ?_) xw_app k⟩
  split at k2
  · rename_i ds i ex ey
    obtain ⟨r1, r2⟩ := sl_step (X := X) (lo := none) (hi := some i) (Q := Q) hK ny A2 ex ey (fun p H' A' => k2 p (fun z => by cases z) (l2.trans l) _ H' A')
    exact ⟨i, r1, r2⟩
  · exact k2.elim
end
end DL
set_option Elab.async false
set_option maxRecDepth 100000
set_option maxHeartbeats 4000000
set_option linter.unusedVariables false
/-! data-level layer, part t: the least and the greatest of a list of ints -/
namespace DL
open PySem PySem.Spec PyProof.Rows L2 NdefX
/-- min(xs) -/
def roMinL : AO := fun ds Q => match ds with
  | [.lst ds] => ∃ ns : List Int, ds = ns.map D.int ∧ 0 < ns.length ∧ ∀ m, m ∈ ns → (∀ y, y ∈ ns → m ≤ y) → Q (.sh (.int m))
  | _ => False
abbrev wMinL := wFun roMinL
section
variable {G : Gx} {X : Cx} {a : Expr} {wr : DT (List Sl)} {p pos : Pos}
end
end DL
set_option Elab.async false
set_option maxRecDepth 100000
set_option maxHeartbeats 4000000
set_option linter.unusedVariables false
/-! data-level layer, part u: loops over enumerate of a list -/
namespace DL
open PySem PySem.Spec PyProof.Rows L2 NdefX
def enumD (ds : List D) : List D := ds.mapIdx fun i d => .tup [.int (i : Nat), d]
section
variable {G : Gx}
end
/-- enumerate(xs) -/
def wEnum (w : DT (List Sl)) : DT (List D) := fun ρ Q E => w ρ (fun xs ρ1 => match datas xs with
  | [.lst ds] => Q (enumD ds) ρ1
  | _ => False) E
section
variable {G : Gx} {X : Cx}
end
end DL
set_option Elab.async false
set_option maxRecDepth 100000
set_option maxHeartbeats 4000000
set_option linter.unusedVariables false
/-! data-level layer, part v: x.pop(e), x a list of one's own -/
namespace DL
open PySem PySem.Spec PyProof.Rows L2 NdefX
def wPopAt (i : Nat) (we : DT Sl) : DT Sl := fun ρ Q E => match ρ[i]? with
  | some (.ow p _) => we ρ (fun y ρ1 => match ρ1[i]?, y.dat with
    | some (.ow p' ds), .int k => p' = p ∧ -(2 ^ 63) ≤ k ∧ k < 2 ^ 63 ∧ ∃ j z, seqIndex? k ds.length = some j ∧ ds[j]? = some z ∧ Q (.sh z) (ρ1.set i (.ow p' (ds.eraseIdx j)))
    | _, _ => False) E
  | _ => False
section
variable {G : Gx} {X : Cx} {e : Expr} {we : DT Sl} {pos : Pos}
end
end DL
set_option Elab.async false
set_option maxRecDepth 100000
set_option maxHeartbeats 4000000
set_option linter.unusedVariables false
/-! data-level layer, part w: xs[::-1] of a list -/
namespace DL
open PySem PySem.Spec PyProof.Rows L2 NdefX
end DL
set_option Elab.async false
set_option maxRecDepth 100000
set_option maxHeartbeats 4000000
set_option linter.unusedVariables false
/-! data-level layer, part x: comprehensions, as a printer takes them -/
namespace DL
open PySem PySem.Spec PyProof.Rows L2 NdefX
theorem wTrue_mono : Mono wTrue := fun _ _ _ _ _ hq _ h => hq _ _ h
section
variable {G : Gx} {X : Cx} {elt iter c : Expr} {scope : Scope} {pos px py tpos : Pos} {x y : Str} {kk : Nat} {wi : DT (List D)} {wt : DT Bool} {we : DT Sl}
abbrev Gn (G : Gx) : Gx := G.wish fun _ _ _ _ => False
abbrev Xb (X : Cx) (scope : Scope) (s : Shared) (H : Hp) (C : Addr) (cl : List (Str × Addr)) (fp : List Addr) : Cx := X.blk s H scope (compEnvC scope cl C X.env) fp
def s0 : Shared := {}
theorem de_lcA (i : Nat) (hc : X.calm = true) (hN : X.N.Nodup) (hi : DI G X (.Name x px) iter wi) (ok : BlkOk X.N X.env.scope scope [(x, i)])
    (hg : ∀ (s : Shared) (H : Hp) (C : Addr) (cl : List (Str × Addr)) (fp : List Addr), PG (Xb X scope s H C cl fp) (.Name x px) (gName i))
    (he : ∀ (s : Shared) (H : Hp) (C : Addr) (cl : List (Str × Addr)) (fp : List Addr), DE (Gn G) (Xb X scope s H C cl fp) elt we)
    (hs : ∀ x, foldedSetIterable iter X.env x = pure x := by intro _; rfl) : DE G X (.ListComp elt [⟨.Name x px, iter, [], 0⟩] scope pos) (wLc i wi wTrue we) :=
  de_lc i hc hN hi wTrue_mono (he s0 (fun _ => none) 0 [] []).mono ok hg (fun _ _ _ _ _ => pts_true) (fun s H C cl fp => (he s H C cl fp).pe) hs
end
end DL
set_option Elab.async false
set_option maxRecDepth 100000
set_option maxHeartbeats 4000000
set_option linter.unusedVariables false
/-! data-level layer, part Mk: a comprehension over two names with a condition -/
namespace DL
open PySem PySem.Spec PyProof.Rows L2 NdefX
section
variable {G : Gx} {X : Cx} {elt iter c : Expr} {scope : Scope} {pos px py tpos : Pos} {x y : Str} {kk : Nat} {wi : DT (List D)} {wt : DT Bool} {we : DT Sl}
end
end DL
set_option Elab.async false
set_option maxRecDepth 100000
set_option maxHeartbeats 4000000
set_option linter.unusedVariables false
/-! data-level layer, part Ml: an expression that is lent some slots; they stay as they are, what it answers is a leaf -/
namespace DL
open PySem PySem.Spec PyProof.Rows L2 NdefX
/-- the slots that are lent, told as trees that stay; the others are not seen -/
def lendE : List Bool → DEnv → DEnv
  | true :: m, x :: r => .sh x.dat :: lendE m r
  | false :: m, _ :: r => .un :: lendE m r
  | [], r => r.map fun _ => .un
  | _ :: _, [] => []
def lendOk (n : Nat) : List Bool → DEnv → Prop
  | true :: m, x :: r => x ≠ .un ∧ plS n x.dat = true ∧ lendOk n m r
  | false :: m, _ :: r => lendOk n m r
  | _, _ => True
def leafD : D → Bool
  | .non => true
  | .bl _ => true
  | .int _ => true
  | .str _ => true
  | _ => false
theorem lendE_len : ∀ (m : List Bool) (ρ : DEnv), (lendE m ρ).length = ρ.length
  | [], r => by unfold lendE; rw [List.length_map]
  | true :: m, [] => rfl
  | false :: m, [] => rfl
  | true :: m, x :: r => by unfold lendE; rw [List.length_cons, List.length_cons, lendE_len m r]
  | false :: m, x :: r => by unfold lendE; rw [List.length_cons, List.length_cons, lendE_len m r]
theorem lendE_get : ∀ {m : List Bool} {ρ : DEnv} {i : Nat} {y : Sl}, (lendE m ρ)[i]? = some y → y = .un ∨ ∃ x, ρ[i]? = some x ∧ y = .sh x.dat ∧ m[i]? = some true
  | [], r, i, y, h => by
    unfold lendE at h
    rw [List.getElem?_map, Option.map_eq_some_iff] at h
    obtain ⟨_, _, e⟩ := h
    exact .inl e.symm
  | true :: m, [], i, y, h => by unfold lendE at h; simp at h
  | false :: m, [], i, y, h => by unfold lendE at h; simp at h
  | true :: m, x :: r, 0, y, h => by unfold lendE at h; cases h; exact .inr ⟨x, rfl, rfl, rfl⟩
  | false :: m, x :: r, 0, y, h => by unfold lendE at h; cases h; exact .inl rfl
  | true :: m, x :: r, i + 1, y, h => by unfold lendE at h; exact lendE_get (m := m) h
  | false :: m, x :: r, i + 1, y, h => by unfold lendE at h; exact lendE_get (m := m) h
theorem lendOk_get {n : Nat} : ∀ {m : List Bool} {ρ : DEnv} {i : Nat} {x : Sl}, lendOk n m ρ → m[i]? = some true → ρ[i]? = some x → x ≠ .un ∧ plS n x.dat = true
  | [], r, i, x, _, h1, _ => by simp at h1
  | true :: m, [], i, x, _, _, h => by simp at h
  | false :: m, [], i, x, _, _, h => by simp at h
  | true :: m, y :: r, 0, x, h, _, h2 => by cases h2; exact ⟨h.1, h.2.1⟩
  | false :: m, y :: r, 0, x, _, h1, _ => by cases h1
  | true :: m, y :: r, i + 1, x, h, h1, h2 => lendOk_get (m := m) (ρ := r) (i := i) h.2.2 h1 h2
  | false :: m, y :: r, i + 1, x, h, h1, h2 => lendOk_get (m := m) (ρ := r) (i := i) h h1 h2
def wLend (m : List Bool) (we : DT Sl) : DT Sl := fun ρ Q _ => ∃ n, lendOk n m ρ ∧ we (lendE m ρ) (fun z _ => leafD z.dat = true ∧ Q (.sh z.dat) ρ) (fun _ _ => False)
theorem wLend_mono {m : List Bool} {we : DT Sl} (h : Mono we) : Mono (wLend m we) := fun ρ _ _ _ _ hq _ ⟨n, h1, h2⟩ => ⟨n, h1, h (fun z _ k => ⟨k.1, hq _ _ k.2⟩) (fun _ _ z => z) h2⟩
section
variable {G : Gx}
/-- all of some slots, frozen -/
theorem frz_all {σ : St} {τ : Roots} {H : Hp} : ∀ (is : List Nat) {ρ : DEnv}, At G σ ρ τ H → (∀ i ∈ is, ∃ x, ρ[i]? = some x ∧ x ≠ .un) → ∃ ρf B', ρf.length = σ.length ∧ Rel G (σ.zip ρf ++ τ) H B' ∧ (∀ (j : Nat) (x : Sl), ρ[j]? = some x → ∃ x', ρf[j]? = some x' ∧ (x' = x ∨ x' = .sh x.dat)) ∧ ∀ i ∈ is, ∀ x, ρ[i]? = some x → ρf[i]? = some (.sh x.dat)
  | [], ρ, h, _ => by
    obtain ⟨B, hr⟩ := h.rel
    exact ⟨ρ, B, h.len, hr, fun j x e => ⟨x, e, .inl rfl⟩, fun i hi => by cases hi⟩
  | i :: is, ρ, h, k => by
    obtain ⟨x0, e0, n0⟩ := k i List.mem_cons_self
    obtain ⟨v, B1, a1, a2, a3, a4⟩ := h.freeze e0 n0
    have hl : i < ρ.length := (List.getElem?_eq_some_iff.mp e0).1
    have st : ∀ (j : Nat) (x : Sl), ρ[j]? = some x → ∃ x', (ρ.set i (.sh x0.dat))[j]? = some x' ∧ (x' = x ∨ x' = .sh x.dat) := fun j x e => by
      by_cases z : i = j
      · subst z
        rw [e0] at e; cases e
        exact ⟨_, List.getElem?_set_self hl, .inr rfl⟩
      · exact ⟨x, by rw [List.getElem?_set_ne z]; exact e, .inl rfl⟩
    obtain ⟨ρf, B', b1, b2, b3, b4⟩ := frz_all is (ρ := ρ.set i (.sh x0.dat)) ⟨a3, B1, a4⟩ fun j hj => by
      obtain ⟨x, e, n⟩ := k j (List.mem_cons_of_mem _ hj)
      obtain ⟨x', e', h'⟩ := st j x e
      refine ⟨x', e', ?_⟩
      rcases h' with rfl | rfl
      · exact n
      · exact fun z => by cases z
    refine ⟨ρf, B', b1, b2, fun j x e => ?_, fun j hj x e => ?_⟩
    · obtain ⟨x', e', h'⟩ := st j x e
      obtain ⟨x2, e2, h2⟩ := b3 j x' e'
      refine ⟨x2, e2, ?_⟩
      rcases h' with rfl | rfl
      · exact h2
      · rcases h2 with rfl | rfl
        · exact .inr rfl
        · exact .inr rfl
    · rcases List.mem_cons.mp hj with rfl | hj
      · rw [e0] at e; cases e
        obtain ⟨x2, e2, h2⟩ := b3 j (.sh x0.dat) (List.getElem?_set_self hl)
        rw [e2]
        rcases h2 with rfl | rfl <;> rfl
      · obtain ⟨x', e', h'⟩ := st j x e
        have := b4 j hj x' e'
        rw [this]
        rcases h' with rfl | rfl <;> rfl
end
section
variable {G : Gx} {X : Cx} {e : Expr} {we : DT Sl}
theorem de_lend (m : List Bool) (he : ∀ B H, DE ⟨G.K, none, B, H, fun _ _ _ _ => False⟩ X e we) : DE G X e (wLend m we) := by
  refine ⟨wLend_mono (he (fun _ => none) (fun _ => none)).mono, ⟨fun pins s σ H Q I h => ?_⟩⟩
  obtain ⟨ρ, τ, ⟨l, B, hr0⟩, n, hok, hw⟩ := h
  obtain ⟨ρf, B', l2, r2, f3, f4⟩ := frz_all ((List.range ρ.length).filter fun i => m[i]? == some true) (ρ := ρ) (τ := τ) ⟨l, B, hr0⟩ fun i hi => by
    rw [List.mem_filter] at hi
    have hil := List.mem_range.mp hi.1
    refine ⟨ρ[i], List.getElem?_eq_getElem hil, ?_⟩
    exact (lendOk_get hok (beq_iff_eq.mp hi.2) (List.getElem?_eq_getElem hil)).1
  have rE : Rel ⟨G.K, none, B', H, fun _ _ _ _ => False⟩ (σ.zip (lendE m ρ) ++ []) H B' := by
    refine ⟨Same.refl _, r2.hi, fun a o e _ => e, fun a xs e _ => (by show B' a ≠ none; rw [e]; exact Option.some_ne_none _), fun r hr => ?_, ?_, ?_, fun s z => by cases z⟩
    · rw [List.append_nil] at hr
      obtain ⟨i, hi⟩ := List.getElem?_of_mem hr
      rw [List.getElem?_zip_eq_some] at hi
      obtain ⟨q1, q2⟩ := r
      simp only [] at hi
      rcases lendE_get hi.2 with rfl | ⟨x, e1, rfl, e3⟩
      · show RepS _ _ _ _ q1 .un
        cases q1 <;> trivial
      · have hil : i < ρ.length := (List.getElem?_eq_some_iff.mp e1).1
        have g := f4 i (by rw [List.mem_filter]; exact ⟨List.mem_range.mpr hil, beq_iff_eq.mpr e3⟩) x e1
        obtain ⟨L, R, v, z1, z2, z3⟩ := zip_split l2 g
        have rp := r2.rep (v, .sh x.dat) (by rw [z2]; simp)
        rw [hi.1] at z1
        cases z1
        cases q1 with
        | none => exact rp
        | some u => exact plS_rp (lendOk_get hok e3 e1).2 rp
    · rw [List.append_nil, feet_still fun y hy => ?_]
      · exact List.nodup_nil
      · obtain ⟨i, hi⟩ := List.getElem?_of_mem hy
        rcases lendE_get hi with rfl | ⟨x, _, rfl, _⟩
        · exact .inl rfl
        · exact .inr ⟨_, rfl⟩
    · rw [List.append_nil, feet_still fun y hy => ?_]
      · intro p hp; cases hp
      · obtain ⟨i, hi⟩ := List.getElem?_of_mem hy
        rcases lendE_get hi with rfl | ⟨x, _, rfl, _⟩
        · exact .inl rfl
        · exact .inr ⟨_, rfl⟩
  refine (he B' H).pe.run pins s σ H Q I ⟨lendE m ρ, [], ⟨by rw [lendE_len]; exact l, B', rE⟩, (he B' H).mono (fun z ρ1 k nz l1 v H1 A1 => ?_) (fun _ _ z => z.elim) hw⟩
  obtain ⟨kl, kq⟩ := k
  obtain ⟨B1, h1, h2⟩ := A1.still nz
  have sH : ∀ a o, H a = some o → H1 a = some o := fun a o e => h2.fr a o e (fun z => by cases z)
  have rN : Rel G (σ.zip ρ ++ τ) H1 B := ⟨hr0.lo, fun a o e => sH a o (hr0.hi a o e), fun a o e n => sH a o (hr0.fr a o e n), hr0.nw, fun r hr => (hr0.rep r hr).mono (Same.refl _) fun p _ o e => sH p o e, hr0.nd, hr0.ap, fun s e => by
    obtain ⟨s1, s2⟩ := hr0.st s e
    obtain ⟨ys, hy⟩ := hr0.store_some e
    exact ⟨s1, s2.mono (Same.refl _) ((sH s _ hy).trans hy.symm)⟩⟩
  have fin : ∀ d, Rp G.K none B1 v d → leafD d = true → Rp G.K G.so B v d := fun d r k => by
    cases r with
    | non => exact .non
    | bl b => exact .bl b
    | int i => exact .int i
    | str x => exact .str x
    | _ => cases k
  exact kq (fun z => by cases z) rfl v H1 (At.addSh l rN (fin _ h1 kl))
end
/-! ### a tuple of ints that is a constant of the module -/
structure TupK (K : PySem.W.Frag) (mg : Str → Option Value) (x : Str) (ns : List Int) : Prop where
  mg : mg x = some (.ref (He.ga K x))
  sq : ∀ H, SqT K H (He.ga K x) (ns.map V.int)
def tupB (K : PySem.W.Frag) (x : Str) (ns : List Int) : Bool := (He.Fa.glo x).ok K && (match K.lookup (He.ga K x) with
  | some ⟨c, _, .seq its _, _⟩ => decide (c = .type "tuple") && (decide (its.size ≤ sizeLine) && He.relAll (ns.map V.int) its.toList)
  | _ => false)
theorem tupB_ok {K : PySem.W.Frag} {h : Heap} {mg : Str → Option Value} {x : Str} {ns : List Int} (X : K.In h) (G : h.Ns mainGlobals mg) (c : tupB K x ns = true) : TupK K mg x ns := by
  unfold tupB at c
  rw [Bool.and_eq_true] at c
  obtain ⟨c1, c2⟩ := c
  refine ⟨He.glo_ok X G c1, fun H => .inr ?_⟩
  split at c2
  · rename_i cl od its n sl q
    simp only [Bool.and_eq_true] at c2
    obtain ⟨k1, k2, k3⟩ := c2
    exact ⟨_, its, n, q, of_decide_eq_true k1, rfl, of_decide_eq_true k2, He.relAll_ok k3⟩
  · cases c2
theorem rps_ints {K : PySem.W.Frag} {so : Option Addr} {B : Hp} : ∀ ns : List Int, Rps K so B (ns.map V.int) (ns.map D.int)
  | [] => .nil
  | n :: ns => .cons (.int n) (rps_ints ns)
theorem de_globT {G : Gx} {X : Cx} {x : Str} {ns : List Int} {pos : Pos} (F : TupK X.K X.mg x ns) (hK : G.K = X.K) (hg : Gl X x := by rfl) (hd : (x == ("__debug__" : Str)) = false := by decide) : DE G X (.Name x pos) (wC (.tup (ns.map D.int))) :=
  de_const (pe_glob (v := .ref (He.ga X.K x)) hg F.mg rfl hd) fun B => by rw [hK]; exact .tup (F.sq B) (rps_ints ns)
end DL
set_option Elab.async false
set_option maxRecDepth 100000
set_option maxHeartbeats 0
set_option linter.unusedVariables false
/-! the head of law H19: the top's defs as data, the check, the run; printed by gen_head.py -/
namespace H19
open PySem PySem.Spec PyProof.Rows L2 NdefX He DL
def topS (i : Nat) : Stmt := PySem.Challenge.pw_bitshades_k19_scores_by_three_ways.main.body.getD i (.Pass ⟨0, 0, 0, 0⟩)
def inS (i j : Nat) : Stmt := match topS i with | .ClassDef _ _ _ b _ _ _ _ _ _ _ => b.getD j (.Pass ⟨0, 0, 0, 0⟩) | _ => .Pass ⟨0, 0, 0, 0⟩
abbrev s_wall : Stmt := topS 0
abbrev s_check_integer : Stmt := topS 17
abbrev s_check_between : Stmt := topS 18
abbrev s_check_width : Stmt := topS 19
abbrev s_check_word : Stmt := topS 20
abbrev s_check_row_tables : Stmt := topS 21
abbrev s_check_bits : Stmt := topS 23
abbrev s_whole : Stmt := topS 27
abbrev s_check_table : Stmt := topS 28
abbrev s_check_row_shades : Stmt := topS 29
abbrev s_check_field : Stmt := topS 31
abbrev s_width_of_length : Stmt := topS 32
abbrev s_parity_signs : Stmt := topS 33
abbrev s_stepped : Stmt := topS 34
abbrev s_all_steps : Stmt := topS 35
abbrev s_summed : Stmt := topS 36
abbrev s_plain_scores : Stmt := topS 37
abbrev s_scores : Stmt := topS 38
abbrev s_quick_field : Stmt := topS 39
abbrev s_law_mixed : Stmt := topS 41
abbrev s_law_wide : Stmt := topS 42
abbrev s_law_store : Stmt := topS 43
abbrev s_law_take : Stmt := topS 44
abbrev s_law_near : Stmt := topS 45
abbrev s_law_is_integer : Stmt := topS 46
abbrev s_law_same : Stmt := topS 47
abbrev s_law_spoil : Stmt := topS 48
abbrev s_law_is_table : Stmt := topS 49
abbrev s_law_size : Stmt := topS 50
abbrev s_law_parity : Stmt := topS 51
abbrev s_law_width : Stmt := topS 52
abbrev s_law_as_row : Stmt := topS 53
abbrev s_law_number_fault : Stmt := topS 54
abbrev s_law_row_fault : Stmt := topS 55
abbrev s_law_field_fault : Stmt := topS 56
abbrev s_law_first_fault : Stmt := topS 57
abbrev s_law_odd_number : Stmt := topS 58
abbrev s_law_is_model : Stmt := topS 59
abbrev s_law_as_table : Stmt := topS 60
abbrev s_law_meets : Stmt := topS 61
abbrev s_law_fault : Stmt := topS 62
abbrev s_law_plain : Stmt := topS 63
abbrev s_law_due : Stmt := topS 64
abbrev s_law_ask : Stmt := topS 65
abbrev s_law_refused : Stmt := topS 66
abbrev s_law_called : Stmt := topS 67
abbrev s_law_right : Stmt := topS 68
abbrev s_law_some_bits : Stmt := topS 69
abbrev s_law_model : Stmt := topS 70
abbrev s_law_odd_table : Stmt := topS 71
abbrev s_law_odd_field : Stmt := topS 72
abbrev s_law_signs : Stmt := topS 73
abbrev s_law_shared : Stmt := topS 74
abbrev s_law : Stmt := topS 75
def d_wall : DefD := ⟨("_wall", none), "_wall", "_wall", defArgs s_wall, defBody s_wall, defScope s_wall, [], []⟩
def d_check_integer : DefD := ⟨("check_integer", none), "check_integer", "check_integer", defArgs s_check_integer, defBody s_check_integer, defScope s_check_integer, [], []⟩
def d_check_between : DefD := ⟨("check_between", none), "check_between", "check_between", defArgs s_check_between, defBody s_check_between, defScope s_check_between, [], []⟩
def d_check_width : DefD := ⟨("check_width", none), "check_width", "check_width", defArgs s_check_width, defBody s_check_width, defScope s_check_width, [], []⟩
def d_check_word : DefD := ⟨("check_word", none), "check_word", "check_word", defArgs s_check_word, defBody s_check_word, defScope s_check_word, [], []⟩
def d_check_row_tables : DefD := ⟨("check_row_tables", none), "check_row", "check_row", defArgs s_check_row_tables, defBody s_check_row_tables, defScope s_check_row_tables, [], []⟩
def d_check_bits : DefD := ⟨("check_bits", none), "check_bits", "check_bits", defArgs s_check_bits, defBody s_check_bits, defScope s_check_bits, [], []⟩
def d_whole : DefD := ⟨("whole", none), "whole", "whole", defArgs s_whole, defBody s_whole, defScope s_whole, [], []⟩
def d_check_table : DefD := ⟨("check_table", none), "check_table", "check_table", defArgs s_check_table, defBody s_check_table, defScope s_check_table, [], []⟩
def d_check_row_shades : DefD := ⟨("check_row_shades", none), "check_row", "check_row", defArgs s_check_row_shades, defBody s_check_row_shades, defScope s_check_row_shades, [], []⟩
def d_check_field : DefD := ⟨("check_field", none), "check_field", "check_field", defArgs s_check_field, defBody s_check_field, defScope s_check_field, [], []⟩
def d_width_of_length : DefD := ⟨("width_of_length", none), "width_of_length", "width_of_length", defArgs s_width_of_length, defBody s_width_of_length, defScope s_width_of_length, [], []⟩
def d_parity_signs : DefD := ⟨("parity_signs", none), "parity_signs", "parity_signs", defArgs s_parity_signs, defBody s_parity_signs, defScope s_parity_signs, [], []⟩
def d_stepped : DefD := ⟨("stepped", none), "stepped", "stepped", defArgs s_stepped, defBody s_stepped, defScope s_stepped, [], []⟩
def d_all_steps : DefD := ⟨("all_steps", none), "all_steps", "all_steps", defArgs s_all_steps, defBody s_all_steps, defScope s_all_steps, [], []⟩
def d_summed : DefD := ⟨("summed", none), "summed", "summed", defArgs s_summed, defBody s_summed, defScope s_summed, [], []⟩
def d_plain_scores : DefD := ⟨("plain_scores", none), "plain_scores", "plain_scores", defArgs s_plain_scores, defBody s_plain_scores, defScope s_plain_scores, [], []⟩
def d_scores : DefD := ⟨("scores", none), "scores", "scores", defArgs s_scores, defBody s_scores, defScope s_scores, [], []⟩
def d_quick_field : DefD := ⟨("quick_field", none), "quick_field", "quick_field", defArgs s_quick_field, defBody s_quick_field, defScope s_quick_field, [], []⟩
def d_law_mixed : DefD := ⟨("_law_mixed", none), "_law_mixed", "_law_mixed", defArgs s_law_mixed, defBody s_law_mixed, defScope s_law_mixed, [], []⟩
def d_law_wide : DefD := ⟨("_law_wide", none), "_law_wide", "_law_wide", defArgs s_law_wide, defBody s_law_wide, defScope s_law_wide, [], []⟩
def d_law_store : DefD := ⟨("_law_store", none), "_law_store", "_law_store", defArgs s_law_store, defBody s_law_store, defScope s_law_store, [], []⟩
def d_law_take : DefD := ⟨("_law_take", none), "_law_take", "_law_take", defArgs s_law_take, defBody s_law_take, defScope s_law_take, [], []⟩
def d_law_near : DefD := ⟨("_law_near", none), "_law_near", "_law_near", defArgs s_law_near, defBody s_law_near, defScope s_law_near, [], []⟩
def d_law_is_integer : DefD := ⟨("_law_is_integer", none), "_law_is_integer", "_law_is_integer", defArgs s_law_is_integer, defBody s_law_is_integer, defScope s_law_is_integer, [], []⟩
def d_law_same : DefD := ⟨("_law_same", none), "_law_same", "_law_same", defArgs s_law_same, defBody s_law_same, defScope s_law_same, [], []⟩
def d_law_spoil : DefD := ⟨("_law_spoil", none), "_law_spoil", "_law_spoil", defArgs s_law_spoil, defBody s_law_spoil, defScope s_law_spoil, [], []⟩
def d_law_is_table : DefD := ⟨("_law_is_table", none), "_law_is_table", "_law_is_table", defArgs s_law_is_table, defBody s_law_is_table, defScope s_law_is_table, [], []⟩
def d_law_size : DefD := ⟨("_law_size", none), "_law_size", "_law_size", defArgs s_law_size, defBody s_law_size, defScope s_law_size, [], []⟩
def d_law_parity : DefD := ⟨("_law_parity", none), "_law_parity", "_law_parity", defArgs s_law_parity, defBody s_law_parity, defScope s_law_parity, [], []⟩
def d_law_width : DefD := ⟨("_law_width", none), "_law_width", "_law_width", defArgs s_law_width, defBody s_law_width, defScope s_law_width, [], []⟩
def d_law_as_row : DefD := ⟨("_law_as_row", none), "_law_as_row", "_law_as_row", defArgs s_law_as_row, defBody s_law_as_row, defScope s_law_as_row, [], []⟩
def d_law_number_fault : DefD := ⟨("_law_number_fault", none), "_law_number_fault", "_law_number_fault", defArgs s_law_number_fault, defBody s_law_number_fault, defScope s_law_number_fault, [], []⟩
def d_law_row_fault : DefD := ⟨("_law_row_fault", none), "_law_row_fault", "_law_row_fault", defArgs s_law_row_fault, defBody s_law_row_fault, defScope s_law_row_fault, [], []⟩
def d_law_field_fault : DefD := ⟨("_law_field_fault", none), "_law_field_fault", "_law_field_fault", defArgs s_law_field_fault, defBody s_law_field_fault, defScope s_law_field_fault, [], []⟩
def d_law_first_fault : DefD := ⟨("_law_first_fault", none), "_law_first_fault", "_law_first_fault", defArgs s_law_first_fault, defBody s_law_first_fault, defScope s_law_first_fault, [], []⟩
def d_law_odd_number : DefD := ⟨("_law_odd_number", none), "_law_odd_number", "_law_odd_number", defArgs s_law_odd_number, defBody s_law_odd_number, defScope s_law_odd_number, [], []⟩
def d_law_is_model : DefD := ⟨("_law_is_model", none), "_law_is_model", "_law_is_model", defArgs s_law_is_model, defBody s_law_is_model, defScope s_law_is_model, [], []⟩
def d_law_as_table : DefD := ⟨("_law_as_table", none), "_law_as_table", "_law_as_table", defArgs s_law_as_table, defBody s_law_as_table, defScope s_law_as_table, [], []⟩
def d_law_meets : DefD := ⟨("_law_meets", none), "_law_meets", "_law_meets", defArgs s_law_meets, defBody s_law_meets, defScope s_law_meets, [], []⟩
def d_law_fault : DefD := ⟨("_law_fault", none), "_law_fault", "_law_fault", defArgs s_law_fault, defBody s_law_fault, defScope s_law_fault, [], []⟩
def d_law_plain : DefD := ⟨("_law_plain", none), "_law_plain", "_law_plain", defArgs s_law_plain, defBody s_law_plain, defScope s_law_plain, [], []⟩
def d_law_due : DefD := ⟨("_law_due", none), "_law_due", "_law_due", defArgs s_law_due, defBody s_law_due, defScope s_law_due, [], []⟩
def d_law_ask : DefD := ⟨("_law_ask", none), "_law_ask", "_law_ask", defArgs s_law_ask, defBody s_law_ask, defScope s_law_ask, [], []⟩
def d_law_refused : DefD := ⟨("_law_refused", none), "_law_refused", "_law_refused", defArgs s_law_refused, defBody s_law_refused, defScope s_law_refused, [], []⟩
def d_law_called : DefD := ⟨("_law_called", none), "_law_called", "_law_called", defArgs s_law_called, defBody s_law_called, defScope s_law_called, [], []⟩
def d_law_right : DefD := ⟨("_law_right", none), "_law_right", "_law_right", defArgs s_law_right, defBody s_law_right, defScope s_law_right, [], []⟩
def d_law_some_bits : DefD := ⟨("_law_some_bits", none), "_law_some_bits", "_law_some_bits", defArgs s_law_some_bits, defBody s_law_some_bits, defScope s_law_some_bits, [], []⟩
def d_law_model : DefD := ⟨("_law_model", none), "_law_model", "_law_model", defArgs s_law_model, defBody s_law_model, defScope s_law_model, [], []⟩
def d_law_odd_table : DefD := ⟨("_law_odd_table", none), "_law_odd_table", "_law_odd_table", defArgs s_law_odd_table, defBody s_law_odd_table, defScope s_law_odd_table, [], []⟩
def d_law_odd_field : DefD := ⟨("_law_odd_field", none), "_law_odd_field", "_law_odd_field", defArgs s_law_odd_field, defBody s_law_odd_field, defScope s_law_odd_field, [], []⟩
def d_law_signs : DefD := ⟨("_law_signs", none), "_law_signs", "_law_signs", defArgs s_law_signs, defBody s_law_signs, defScope s_law_signs, [], []⟩
def d_law_shared : DefD := ⟨("_law_shared", none), "_law_shared", "_law_shared", defArgs s_law_shared, defBody s_law_shared, defScope s_law_shared, [], []⟩
def d_law : DefD := ⟨("law", none), "law", "law", defArgs s_law, defBody s_law, defScope s_law, [], []⟩
def i_WrongKind : DefV := ⟨⟨("WrongKind", some "__init__"), "__init__", "WrongKind.__init__", defArgs (inS 3 0), defBody (inS 3 0), defScope (inS 3 0), [], []⟩, ["__class__"]⟩
def i_WrongSize : DefV := ⟨⟨("WrongSize", some "__init__"), "__init__", "WrongSize.__init__", defArgs (inS 4 0), defBody (inS 4 0), defScope (inS 4 0), [], []⟩, ["__class__"]⟩
def i_OutOfRange : DefV := ⟨⟨("OutOfRange", some "__init__"), "__init__", "OutOfRange.__init__", defArgs (inS 5 0), defBody (inS 5 0), defScope (inS 5 0), [], []⟩, ["__class__"]⟩
def i_BadText : DefV := ⟨⟨("BadText", some "__init__"), "__init__", "BadText.__init__", defArgs (inS 6 0), defBody (inS 6 0), defScope (inS 6 0), [], []⟩, ["__class__"]⟩
def i_Spent : DefV := ⟨⟨("Spent", some "__init__"), "__init__", "Spent.__init__", defArgs (inS 8 0), defBody (inS 8 0), defScope (inS 8 0), [], []⟩, ["__class__"]⟩
def i_TooFewPlaces : DefV := ⟨⟨("TooFewPlaces", some "__init__"), "__init__", "TooFewPlaces.__init__", defArgs (inS 9 0), defBody (inS 9 0), defScope (inS 9 0), [], []⟩, ["__class__"]⟩
def i_WrongPaper : DefV := ⟨⟨("WrongPaper", some "__init__"), "__init__", "WrongPaper.__init__", defArgs (inS 10 0), defBody (inS 10 0), defScope (inS 10 0), [], []⟩, ["__class__"]⟩
def i_UnknownName : DefV := ⟨⟨("UnknownName", some "__init__"), "__init__", "UnknownName.__init__", defArgs (inS 11 0), defBody (inS 11 0), defScope (inS 11 0), [], []⟩, ["__class__"]⟩
def i_NameTaken : DefV := ⟨⟨("NameTaken", some "__init__"), "__init__", "NameTaken.__init__", defArgs (inS 12 0), defBody (inS 12 0), defScope (inS 12 0), [], []⟩, ["__class__"]⟩
def fn : List DefV := [⟨d_wall, []⟩, ⟨d_check_integer, []⟩, ⟨d_check_between, []⟩, ⟨d_check_width, []⟩, ⟨d_check_word, []⟩, ⟨d_check_row_tables, []⟩, ⟨d_check_bits, []⟩, ⟨d_whole, []⟩, ⟨d_check_table, []⟩, ⟨d_check_row_shades, []⟩, ⟨d_check_field, []⟩, ⟨d_width_of_length, []⟩, ⟨d_parity_signs, []⟩, ⟨d_stepped, []⟩, ⟨d_all_steps, []⟩, ⟨d_summed, []⟩, ⟨d_plain_scores, []⟩, ⟨d_scores, []⟩, ⟨d_quick_field, []⟩, ⟨d_law_mixed, []⟩, ⟨d_law_wide, []⟩, ⟨d_law_store, []⟩, ⟨d_law_take, []⟩, ⟨d_law_near, []⟩, ⟨d_law_is_integer, []⟩, ⟨d_law_same, []⟩, ⟨d_law_spoil, []⟩, ⟨d_law_is_table, []⟩, ⟨d_law_size, []⟩, ⟨d_law_parity, []⟩, ⟨d_law_width, []⟩, ⟨d_law_as_row, []⟩, ⟨d_law_number_fault, []⟩, ⟨d_law_row_fault, []⟩, ⟨d_law_field_fault, []⟩, ⟨d_law_first_fault, []⟩, ⟨d_law_odd_number, []⟩, ⟨d_law_is_model, []⟩, ⟨d_law_as_table, []⟩, ⟨d_law_meets, []⟩, ⟨d_law_fault, []⟩, ⟨d_law_plain, []⟩, ⟨d_law_due, []⟩, ⟨d_law_ask, []⟩, ⟨d_law_refused, []⟩, ⟨d_law_called, []⟩, ⟨d_law_right, []⟩, ⟨d_law_some_bits, []⟩, ⟨d_law_model, []⟩, ⟨d_law_odd_table, []⟩, ⟨d_law_odd_field, []⟩, ⟨d_law_signs, []⟩, ⟨d_law_shared, []⟩, ⟨d_law, []⟩, i_WrongKind, i_WrongSize, i_OutOfRange, i_BadText, i_Spent, i_TooFewPlaces, i_WrongPaper, i_UnknownName, i_NameTaken]
def m_Table_init : MemD := ⟨"Table", "__init__", false, "__init__", "Table.__init__", defArgs (inS 24 0), defBody (inS 24 0), defScope (inS 24 0), []⟩
def m_Table_width : MemD := ⟨"Table", "width", true, "width", "Table.width", defArgs (inS 24 3), defBody (inS 24 3), defScope (inS 24 3), []⟩
def m_Table_bits : MemD := ⟨"Table", "bits", true, "bits", "Table.bits", defArgs (inS 24 4), defBody (inS 24 4), defScope (inS 24 4), []⟩
def m_Table_number : MemD := ⟨"Table", "number", true, "number", "Table.number", defArgs (inS 24 6), defBody (inS 24 6), defScope (inS 24 6), []⟩
def m_Table_sign : MemD := ⟨"Table", "sign", false, "sign", "Table.sign", defArgs (inS 24 7), defBody (inS 24 7), defScope (inS 24 7), []⟩
def m_Table_signs : MemD := ⟨"Table", "signs", false, "signs", "Table.signs", defArgs (inS 24 8), defBody (inS 24 8), defScope (inS 24 8), []⟩
def m_Table_len : MemD := ⟨"Table", "__len__", false, "__len__", "Table.__len__", defArgs (inS 24 9), defBody (inS 24 9), defScope (inS 24 9), []⟩
def m_Table_getitem : MemD := ⟨"Table", "__getitem__", false, "__getitem__", "Table.__getitem__", defArgs (inS 24 10), defBody (inS 24 10), defScope (inS 24 10), []⟩
def m_Table_eq : MemD := ⟨"Table", "__eq__", false, "__eq__", "Table.__eq__", defArgs (inS 24 12), defBody (inS 24 12), defScope (inS 24 12), []⟩
def m_Table_add : MemD := ⟨"Table", "__add__", false, "__add__", "Table.__add__", defArgs (inS 24 13), defBody (inS 24 13), defScope (inS 24 13), []⟩
def m_Table_and : MemD := ⟨"Table", "__and__", false, "__and__", "Table.__and__", defArgs (inS 24 14), defBody (inS 24 14), defScope (inS 24 14), []⟩
def m_Table_invert : MemD := ⟨"Table", "__invert__", false, "__invert__", "Table.__invert__", defArgs (inS 24 15), defBody (inS 24 15), defScope (inS 24 15), []⟩
def m_Table_str : MemD := ⟨"Table", "__str__", false, "__str__", "Table.__str__", defArgs (inS 24 16), defBody (inS 24 16), defScope (inS 24 16), []⟩
def ms : List MemD := [m_Table_init, m_Table_width, m_Table_bits, m_Table_number, m_Table_sign, m_Table_signs, m_Table_len, m_Table_getitem, m_Table_eq, m_Table_add, m_Table_and, m_Table_invert, m_Table_str]
def file : Str := PySem.Challenge.pw_bitshades_k19_scores_by_three_ways.main.file
def errs : List Str := ["ShadeError", "WrongKind", "WrongSize", "OutOfRange", "BadText", "NotATable", "Spent", "TooFewPlaces", "WrongPaper", "UnknownName", "NameTaken", "NothingToUndo", "BookFull"]
def inis : List Str := ["WrongKind", "WrongSize", "OutOfRange", "BadText", "Spent", "TooFewPlaces", "WrongPaper", "UnknownName", "NameTaken"]
def ck1 (K : PySem.W.Frag) : Bool := errs.all (errB K)
def ck2 (K : PySem.W.Frag) : Bool := inis.all (iniB K file)
def ck3 (K : PySem.W.Frag) : Bool := errs.all fun c => errs.all fun e => decide (PySem.W.kitOne K (.ref (ga K c)) (.ref (ga K e)) = some (c == e || e == "ShadeError"))
def ck4 (K : PySem.W.Frag) : Bool := errs.all fun c => decide (PySem.W.kitOne K (.ref (ga K c)) (.type "ValueError") = some true)
def free : List Str := ["ValueError", "bool", "dict", "int", "isinstance", "iter", "len", "list", "max", "min", "range", "str", "sum", "super", "tuple", "zip"]
def ck5 (K : PySem.W.Frag) : Bool := free.all fun x => (Fa.free x).ok K
def ck6 (K : PySem.W.Frag) : Bool := (fn.filter fun d => d.free.isEmpty).all fun d => (Fa.glo d.d.at_.1).ok K
def cons : List Fa := [Fa.int "MOST_WIDTH" 6]
def ck7 (K : PySem.W.Frag) : Bool := cons.all fun f => f.ok K
def ck10 (K : PySem.W.Frag) : Bool := ndB K
def ck8 (K : PySem.W.Frag) : Bool := eqO (PySem.W.nsIn K cStatics "thirdparty.any") (some none)
def nini : List Str := ["NotATable", "NothingToUndo", "BookFull"]
def ck9 (K : PySem.W.Frag) : Bool := nini.all (ernB K)
def owns : List Str := ["Table"]
def ck11 (K : PySem.W.Frag) : Bool := owns.all (ownB K) && (ms.all (memB K) && ([("Table", "wide"), ("Table", "held")] : List (Str × Str)).all fun q => (Fa.noat q.1 q.2).ok K)
def tups : List (Str × List Int) := [("FIELD_LENGTHS", [1, 2, 4, 8, 16, 32, 64])]
def ck14 (K : PySem.W.Frag) : Bool := tups.all fun q => tupB K q.1 q.2
def ck13 (K : PySem.W.Frag) : Bool := insB K owns
def ck12 (K : PySem.W.Frag) : Bool := ck1 K && (ck2 K && (ck3 K && (ck4 K && (ck5 K && (ck6 K && (ck7 K && (ck8 K && (ck9 K && ck10 K))))))))
def ck (K : PySem.W.Frag) : Bool := ck12 K && (ck11 K && (ck13 K && ck14 K))
abbrev R : PySem.W.OpenRow := PySem.W.OpenLaw.row PySem.Challenge.rw_bitshades_k19_scores_by_three_ways
/-! the addresses that are looked at, found level by level; those seen are the bits of a number -/
section
open HandSHeadRun
def refsG (g : Addr → Option Obj) (a : Addr) : List Addr := match g a with
  | some o => refsD o
  | none => []
def addB {α : Type} (l : List Addr) (m : Nat) (bs : List Addr) (k : Nat → List Addr → α) : α := match bs with
  | [] => k m l
  | b :: r => frNat b fun b => match Nat.testBit m b with
    | true => addB l m r k
    | false => frNat (m ||| (1 <<< b)) fun m => addB (b :: l) m r k
def stepB {α : Type} (g : Addr → Option Obj) (m : Nat) (fr new : List Addr) (k : Nat → List Addr → α) : α := match fr with
  | [] => k m new
  | a :: r => addB new m (refsG g a) fun m new => stepB g m r new k
def bfsB (g : Addr → Option Obj) : Nat → Nat → List Addr → List Addr → List Addr
  | 0, _, _, acc => acc
  | n + 1, m, fr, acc => stepB g m fr [] fun m new => bfsB g n m new (acc ++ new)
def asB (g : Addr → Option Obj) : List Addr := cStatics :: bfsB g 5 (1 <<< mainGlobals) [mainGlobals] [mainGlobals]
def obsB (g : Addr → Option Obj) : AlP := obsY ck fn ms (frG g (asB g))
abbrev hk : PySem.W.Hook where
  α := AlP
  obs := fun s => obsB s.heap.get?
  val := fun _ => valY fn ms
  says := fun _ h => ∃ K : PySem.W.Frag, K.In h ∧ SaysY ck fn ms K
  of := fun _ _ e => ⟨_, frG_in, e⟩
  keeps := fun _ _ _ ⟨K, hK, c⟩ k => ⟨K, PySem.W.Frag.In.keeps hK k, c⟩
def ob (s : PySem.W.SharedT) : AlP := obsB (getT s)
theorem ob_eq (s : PySem.W.SharedT) : ob s = hk.obs s.abs := by
  have e : getT s = s.abs.heap.get? := funext (getT_eq s)
  show obsB (getT s) = obsB s.abs.heap.get?
  rw [e]
end
def loose0 : List PySem.Str := ["_wall", "ShadeError", "WrongKind", "WrongSize", "OutOfRange", "BadText", "NotATable", "Spent", "TooFewPlaces", "WrongPaper", "UnknownName", "NameTaken", "NothingToUndo", "BookFull", "MOST_WIDTH", "check_integer", "check_between", "check_width", "check_word", "check_row", "check_row_tables", "check_bits", "Table", "FIELD_LENGTHS", "whole", "check_table", "check_row", "check_row_shades", "check_field", "width_of_length"]
def loose1 : List PySem.Str := ["parity_signs", "stepped", "all_steps", "summed", "plain_scores", "scores", "quick_field", "_law_mixed", "_law_wide", "_law_store", "_law_take", "_law_near", "_law_is_integer", "_law_same", "_law_spoil", "_law_is_table", "_law_size", "_law_parity", "_law_width", "_law_as_row", "_law_number_fault", "_law_row_fault", "_law_field_fault", "_law_first_fault", "_law_odd_number", "_law_is_model", "_law_as_table", "_law_meets", "_law_fault", "_law_plain"]
def loose2 : List PySem.Str := ["_law_due", "_law_ask", "_law_refused", "_law_called", "_law_right", "_law_some_bits", "_law_model", "_law_odd_table", "_law_odd_field", "_law_signs", "_law_shared"]
def loose : List PySem.Str := loose0 ++ loose1 ++ loose2
abbrev qv : Program := PySem.W.view R.prog [75]
/-! the run, looked at part by part: one look at a time holds less memory -/
section
open HandSHeadRun PySem.W
theorem both {α β γ : Type} {x : Option α} {f : α → β} {g : α → γ} {a : β} {b : γ} (h1 : x.map f = some a) (h2 : x.map g = some b) : x.map (fun s => (f s, g s)) = some (a, b) := by
  cases x with
  | none => cases h1
  | some s => injection h1 with h1; injection h2 with h2; rw [Option.map_some, h1, h2]
noncomputable def end_ (w : World) (os : OsState) : Option SharedT := endF (stepQ (denQ tabQ) R.prog w) 12000 R.prog w os
theorem run1 (w : World) (os : OsState) : (end_ w os).map (fun s => looksF R.prog (boot_heap w.params) s.abs) = some true := by kernel_rfl
theorem run2 (w : World) (os : OsState) : (end_ w os).map (fun s => seenQ qv loose (importedModules R.prog.main.body) (fun s => xlAt qv [] s && recOk R.toRowW.records s) s.abs) = some (openGood qv loose) := by kernel_rfl
theorem run3 (w : World) (os : OsState) : (end_ w os).map ob = some (hk.val w) := by kernel_rfl
theorem run (w : World) : HandSHeadRun.RunEq R qv hk ob 12000 loose w := fun os => both (run1 w os) (both (run2 w os) (run3 w os))
end
end H19
set_option Elab.async false
set_option maxRecDepth 100000
set_option maxHeartbeats 1000000
set_option linter.unusedVariables false
/-! promises of the defs that many laws share, and of the fractions -/
namespace C
open PySem PySem.Spec PyProof.Rows L2 NdefX DL
/-- the kinds that the laws hand about: some b where b tells an int that is no bool -/
def isI : D → Option Bool
  | .int _ => some true
  | .non => some false
  | .bl _ => some false
  | .str _ => some false
  | .lst _ => some false
  | .tup _ => some false
  | .dic _ _ => some false
  | _ => none
def Bd (n : Nat) (i : Int) : Prop := i.natAbs < 2 ^ n
abbrev Er1 (c : Str) (z : Str) : Er := ⟨c, some (.str z)⟩
/-! ### draws -/
abbrev intW (P : List D → Prop) (R : List D → Int → Prop) : DW1 := WG P (fun ds z => ∃ r, z = .sh (.int r) ∧ R ds r) noX
def W_law_mixed : DW1 := intW (fun ds => ∃ c n, ds = [.int c, .int n]) fun _ r => 0 ≤ r ∧ r < 2147483399
def W_law_wide : DW1 := intW (fun ds => ∃ c n m, ds = [.int c, .int n, .int m] ∧ 1 ≤ m ∧ Bd 100000 m) fun ds r => ∃ c n m, ds = [.int c, .int n, .int m] ∧ 0 ≤ r ∧ r < m
def W_law_take : DW1 := intW (fun ds => ∃ m, ds = [.sto, .int m] ∧ Bd 8999 m) fun ds r => ∃ m, ds = [.sto, .int m] ∧ 0 ≤ r ∧ (r < m ∨ r = 0)
def W_law_near : DW1 := intW (fun ds => ∃ a b, ds = [.sto, .int a, .int b] ∧ a ≤ b ∧ Bd 8000 a ∧ Bd 8000 b) fun ds r => ∃ a b, ds = [.sto, .int a, .int b] ∧ a ≤ r ∧ r ≤ b
/-! ### checks -/
def f_check_integer : List D → Option (Except Er D)
  | [d, .str z] => if z.length ≤ 1000 then (isI d).map fun b => if b then .ok .non else .error (Er1 "WrongKind" z) else none
  | _ => none
def W_check_integer : DW1 := WF f_check_integer
def betw (i lo hi : Int) : Bool := decide (lo ≤ i) && decide (i ≤ hi)
def f_check_between : List D → Option (Except Er D)
  | [d, .int lo, .int hi, .str z] => if z.length ≤ 1000 then (match d with
    | .int i => some (if betw i lo hi then .ok .non else .error (Er1 "OutOfRange" z))
    | d => (isI d).map fun _ => .error (Er1 "WrongKind" z)) else none
  | _ => none
def W_check_between : DW1 := WF f_check_between
/-- a value beside a fraction: what is wrong with it -/
def frF : D → Option (Option Str)
  | .tup [a, b] => (match isI a, isI b with
    | some true, some true => (match b with | .int j => some (if 1 ≤ j then none else some "OutOfRange") | _ => none)
    | some _, some _ => some (some "WrongKind")
    | _, _ => none)
  | .tup _ => some (some "WrongSize")
  | d => (isI d).map fun _ => some "WrongKind"
/-! ### fractions -/
def ratD (r : Rat) : D := .tup [.int r.num, .int r.den]
/-- the value of a fraction's tuple -/
def valF : D → Rat
  | .tup [.int a, .int b] => Rat.divInt a b
  | _ => 0
/-- a function of two fractions: the first fault, else f -/
def two (op : Rat → Rat → Option Rat) (ds : List D) : Option (Except Er D) := match ds with
  | [x, y] => (match frF x, frF y with
    | some (some c), some _ => some (.error (Er1 c "first"))
    | some none, some (some c) => some (.error (Er1 c "second"))
    | some none, some none => some (match op (valF x) (valF y) with | some r => .ok (ratD r) | none => .error (Er1 "OutOfRange" "second"))
    | _, _ => none)
  | _ => none
/-! ### the law's own helpers -/
def W_law_is_integer : DW1 := WF fun ds => match ds with | [d] => (isI d).map fun b => .ok (.bl b) | _ => none
def fltN (d lo hi : D) : Option Str := match d with
  | .int i => (match lo, hi with
    | .non, .non => some ""
    | .int a, .non => some (if i < a then "OutOfRange" else "")
    | .non, .int b => some (if b < i then "OutOfRange" else "")
    | .int a, .int b => some (if i < a ∨ b < i then "OutOfRange" else "")
    | _, _ => none)
  | d => (isI d).map fun _ => "WrongKind"
def firstF : List D → Option D
  | [] => some .non
  | .tup [.str n, .str f] :: r => if PyData.canLay0 (.str f) = true then (if f = "" then firstF r else some (.tup [.str f, .str n])) else none
  | _ => none
def W_law_first_fault : DW1 := WF fun ds => match ds with | [.lst l] => (firstF l).map .ok | _ => none
/-- data that equals itself -/
def pl : Nat → D → Bool
  | 0, _ => false
  | _ + 1, .non => true
  | _ + 1, .bl _ => true
  | _ + 1, .int _ => true
  | _ + 1, .str z => PyData.canLay0 (.str z)
  | _ + 1, .dic [] [] => true
  | n + 1, .lst l => decide (l.length ≤ 100000) && l.all (pl n)
  | n + 1, .tup l => decide (l.length ≤ 100000) && l.all (pl n)
  | _ + 1, _ => false
/-- data that may be copied -/
def pd : Nat → D → Bool
  | 0, _ => false
  | _ + 1, .non => true
  | _ + 1, .bl _ => true
  | _ + 1, .int _ => true
  | _ + 1, .str _ => true
  | _ + 1, .dic _ _ => true
  | n + 1, .lst l => decide (l.length ≤ 1000) && l.all (pd n)
  | n + 1, .tup l => decide (l.length ≤ 1000) && l.all (pd n)
  | _ + 1, _ => false
def W_law_store : DW1 := WG (fun ds => ∃ ns, ds = [.scr ns]) (fun ds z => ∃ ns q m, ds = [.scr ns] ∧ z = .ow q [.lst (ns.map .int), .int 0, .int 0, .int m, .int 0]) noX
end C
set_option Elab.async false
set_option maxRecDepth 100000
set_option maxHeartbeats 1000000
set_option linter.unusedVariables false
/-! promises many laws share: monotone, how many arguments -/
namespace C
open PySem PySem.Spec PyProof.Rows L2 NdefX DL
abbrev Kd := Except Er D
theorem mono_law_store : MonoW W_law_store := WG_mono
theorem len_law_store : ∀ ds Q E, W_law_store ds Q E → ds.length = 1 := fun _ _ _ h => by obtain ⟨⟨_, e⟩, _⟩ := h; rw [e]; rfl
/-! the same for the shared ones -/
theorem mono_law_mixed : MonoW W_law_mixed := WG_mono
theorem mono_law_wide : MonoW W_law_wide := WG_mono
theorem mono_law_take : MonoW W_law_take := WG_mono
theorem mono_law_near : MonoW W_law_near := WG_mono
theorem mono_law_is_integer : MonoW W_law_is_integer := WF_mono
theorem mono_law_first_fault : MonoW W_law_first_fault := WF_mono
theorem lenF {f : List D → Option Kd} {n : Nat} (k : ∀ ds r, f ds = some r → ds.length = n) : ∀ ds Q E, WF f ds Q E → ds.length = n := fun ds Q E h => by
  unfold WF at h
  split at h
  · exact k _ _ (by assumption)
  · exact k _ _ (by assumption)
  · exact h.elim
theorem len_law_mixed : ∀ ds Q E, W_law_mixed ds Q E → ds.length = 2 := fun _ _ _ h => by obtain ⟨⟨_, _, e⟩, _⟩ := h; rw [e]; rfl
theorem len_law_wide : ∀ ds Q E, W_law_wide ds Q E → ds.length = 3 := fun _ _ _ h => by obtain ⟨⟨_, _, _, e, _⟩, _⟩ := h; rw [e]; rfl
theorem len_law_near : ∀ ds Q E, W_law_near ds Q E → ds.length = 3 := fun _ _ _ h => by obtain ⟨⟨_, _, e, _⟩, _⟩ := h; rw [e]; rfl
theorem len_law_is_integer : ∀ ds Q E, W_law_is_integer ds Q E → ds.length = 1 := lenF fun ds r h => by split at h <;> first | rfl | cases h
theorem len_law_first_fault : ∀ ds Q E, W_law_first_fault ds Q E → ds.length = 1 := lenF fun ds r h => by split at h <;> first | rfl | cases h
end C
set_option Elab.async false
set_option maxRecDepth 100000
set_option maxHeartbeats 1000000
set_option linter.unusedVariables false
/-! promises of the class of tables, and of what the laws on tables share -/
namespace C
open PySem PySem.Spec PyProof.Rows L2 NdefX DL
def okT : Str → Bool := fun c => c == "Table"
def nD (l : List Nat) : List D := l.map fun (n : Nat) => D.int n
/-! ### tables -/
/-- l: the bits of a table of width w -/
structure TB (w : Nat) (l : List Nat) : Prop where
  w6 : w ≤ 6
  len : l.length = 2 ^ w
  bit : ∀ b ∈ l, b ≤ 1
def tb (w : Nat) (l : List Nat) : D := .ins "Table" ["wide", "held"] [.int w, .tup (nD l)]
def sgD (l : List Nat) : List D := l.map fun (n : Nat) => D.int (1 - 2 * (n : Int))
def xorL (l m : List Nat) : List Nat := List.zipWith (fun a b => (a + b) % 2) l m
def andL (l m : List Nat) : List Nat := List.zipWith (fun a b => a * b) l m
/-! ### the checks -/
def f_check_integer_tables : List D → Option Kd
  | [z, d] => f_check_integer [d, z]
  | _ => none
def W_check_integer_tables : DW1 := WF f_check_integer_tables
def f_check_between_tables : List D → Option Kd
  | [z, d, lo, hi] => f_check_between [d, lo, hi, z]
  | _ => none
def W_check_between_tables : DW1 := WF f_check_between_tables
def f_check_width_tables : List D → Option Kd
  | [d] => f_check_between [d, .int 0, .int 6, .str "width"]
  | _ => none
def W_check_width_tables : DW1 := WF f_check_width_tables
/-- a row's fault, by its kind and length -/
def rowF (d : D) (lo hi : Int) : Option (Option Str) := match d with
  | .lst l => some (if (l.length : Int) < lo ∨ hi < l.length then some "WrongSize" else none)
  | .tup l => some (if (l.length : Int) < lo ∨ hi < l.length then some "WrongSize" else none)
  | d => (isI d).map fun _ => some "WrongKind"
def f_check_row_tables : List D → Option Kd
  | [.str z, d, .int lo, .int hi] => if z.length ≤ 1000 then (rowF d lo hi).map fun o => (match o with | none => .ok .non | some c => .error (Er1 c z)) else none
  | _ => none
def W_check_row_tables : DW1 := WF f_check_row_tables
def itemsD : D → List D
  | .lst l => l
  | .tup l => l
  | _ => []
/-- the first item that is no bit -/
def bitsF : List D → Option Kd
  | [] => some (.ok .non)
  | d :: ds => match f_check_between [d, .int 0, .int 1, .str "bits"] with
    | some (.ok _) => bitsF ds
    | r => r
def f_check_bits : List D → Option Kd
  | [d, .int lo, .int hi] => (match f_check_row_tables [.str "bits", d, .int lo, .int hi] with
    | some (.ok _) => bitsF (itemsD d)
    | r => r)
  | _ => none
def W_check_bits : DW1 := WF f_check_bits
/-! ### the class -/
def f_Table_init : List D → Option Kd
  | [x, d] => (match f_check_width_tables [x] with
    | some (.ok _) => (match x with
      | .int w => (match f_check_bits [d, .int (2 ^ w.toNat), .int (2 ^ w.toNat)] with
        | some (.ok _) => some (.ok (.ins "Table" ["wide", "held"] [.int w, .tup (itemsD d)]))
        | r => r)
      | _ => none)
    | r => r)
  | _ => none
def W_Table_init : DW1 := WF f_Table_init
def W_Table_width : DW1 := fun ds Q _ => ∃ w l, ds = [tb w l] ∧ TB w l ∧ Q (.sh (.int w))
def W_Table_bits : DW1 := fun ds Q _ => ∃ w l, ds = [tb w l] ∧ TB w l ∧ Q (.sh (.tup (nD l)))
def W_Table_signs : DW1 := fun ds Q _ => ∃ w l, ds = [tb w l] ∧ TB w l ∧ ∀ p, Q (.ow p (sgD l))
/-! ### drawn tables -/
def popN (m : Nat) : Nat := ((List.range 20).map fun k => m / 2 ^ k % 2).sum
def W_law_size : DW1 := fun ds Q _ => ∃ m : Nat, ds = [.int m] ∧ m < 2 ^ 20 ∧ Q (.sh (.int (popN m)))
def W_law_parity : DW1 := fun ds Q _ => ∃ a b : Nat, ds = [.int a, .int b] ∧ a < 2 ^ 20 ∧ Q (.sh (.int (popN (a &&& b) % 2 : Nat)))
def W_law_width : DW1 := WG (fun ds => ∃ lo hi : Nat, ds = [.sto, .int lo, .int hi] ∧ lo ≤ hi ∧ hi ≤ 6) (fun ds z => ∃ lo hi w : Nat, ds = [.sto, .int lo, .int hi] ∧ z = .sh (.int w) ∧ lo ≤ w ∧ w ≤ hi) noX
/-! ### monotone, how many arguments -/
theorem mono_check_integer_tables : MonoW W_check_integer_tables := WF_mono
theorem mono_check_between_tables : MonoW W_check_between_tables := WF_mono
theorem mono_check_width_tables : MonoW W_check_width_tables := WF_mono
theorem mono_check_row_tables : MonoW W_check_row_tables := WF_mono
theorem mono_check_bits : MonoW W_check_bits := WF_mono
theorem mono_Table_init : MonoW W_Table_init := WF_mono
theorem mono_Table_width : MonoW W_Table_width := fun _ _ _ _ _ hq _ ⟨w, l, a, b, c⟩ => ⟨w, l, a, b, hq _ c⟩
theorem mono_Table_bits : MonoW W_Table_bits := fun _ _ _ _ _ hq _ ⟨w, l, a, b, c⟩ => ⟨w, l, a, b, hq _ c⟩
theorem mono_Table_signs : MonoW W_Table_signs := fun _ _ _ _ _ hq _ ⟨w, l, a, b, c⟩ => ⟨w, l, a, b, fun p => hq _ (c p)⟩
theorem mono_law_size : MonoW W_law_size := fun _ _ _ _ _ hq _ ⟨m, a, b, c⟩ => ⟨m, a, b, hq _ c⟩
theorem mono_law_parity : MonoW W_law_parity := fun _ _ _ _ _ hq _ ⟨x, y, a, b, c⟩ => ⟨x, y, a, b, hq _ c⟩
theorem mono_law_width : MonoW W_law_width := WG_mono
theorem lenT {f : List D → Option Kd} {n : Nat} (k : ∀ ds, (f ds).isSome = true → ds.length = n) : ∀ ds Q E, WF f ds Q E → ds.length = n := lenF fun ds r h => k ds (by rw [h]; rfl)
theorem len_check_integer_tables : ∀ ds Q E, W_check_integer_tables ds Q E → ds.length = 2 := lenT fun ds h => by
  unfold f_check_integer_tables at h; split at h <;> first | rfl | cases h
theorem len_check_between_tables : ∀ ds Q E, W_check_between_tables ds Q E → ds.length = 4 := lenT fun ds h => by
  unfold f_check_between_tables at h; split at h <;> first | rfl | cases h
theorem len_check_width_tables : ∀ ds Q E, W_check_width_tables ds Q E → ds.length = 1 := lenT fun ds h => by
  unfold f_check_width_tables at h; split at h <;> first | rfl | cases h
theorem len_check_row_tables : ∀ ds Q E, W_check_row_tables ds Q E → ds.length = 4 := lenT fun ds h => by
  unfold f_check_row_tables at h; split at h <;> first | rfl | cases h
theorem len_check_bits : ∀ ds Q E, W_check_bits ds Q E → ds.length = 3 := lenT fun ds h => by
  unfold f_check_bits at h; split at h <;> first | rfl | cases h
theorem len_Table_init : ∀ ds Q E, W_Table_init ds Q E → ds.length = 2 := lenT fun ds h => by
  unfold f_Table_init at h; split at h <;> first | rfl | cases h
theorem len_Table_width : ∀ ds Q E, W_Table_width ds Q E → ds.length = 1 := fun _ _ _ ⟨_, _, e, _⟩ => by rw [e]; rfl
theorem len_Table_bits : ∀ ds Q E, W_Table_bits ds Q E → ds.length = 1 := fun _ _ _ ⟨_, _, e, _⟩ => by rw [e]; rfl
theorem len_Table_signs : ∀ ds Q E, W_Table_signs ds Q E → ds.length = 1 := fun _ _ _ ⟨_, _, e, _⟩ => by rw [e]; rfl
theorem len_law_size : ∀ ds Q E, W_law_size ds Q E → ds.length = 1 := fun _ _ _ ⟨_, e, _⟩ => by rw [e]; rfl
theorem len_law_parity : ∀ ds Q E, W_law_parity ds Q E → ds.length = 2 := fun _ _ _ ⟨_, _, e, _⟩ => by rw [e]; rfl
theorem len_law_width : ∀ ds Q E, W_law_width ds Q E → ds.length = 3 := fun _ _ _ ⟨⟨_, _, e, _⟩, _⟩ => by rw [e]; rfl
end C
set_option Elab.async false
set_option maxRecDepth 100000
set_option maxHeartbeats 1000000
set_option linter.unusedVariables false
/-! promises that laws on tables share: instances among the values, the class of asked objects -/
namespace C
open PySem PySem.Spec PyProof.Rows L2 NdefX DL
def okI : Str → Bool := fun c => c == "Table"
def isT (d : D) : Option Bool := isOwnX okI "Table" d
def isJ (d : D) : Option Bool := insF okI isI d
/-- told -/
def toldD : Kd → D
  | .ok d => .tup [.str "answer", d]
  | .error ⟨c, some a⟩ => .tup [.str "refused", .tup [.str c, a]]
  | .error ⟨c, none⟩ => .non
/-! ### checks -/
def f_chkT : List D → Option Kd
  | [d, .str z] => if z.length ≤ 1000 then (isT d).map fun b => if b = true then .ok .non else .error (Er1 "WrongKind" z) else none
  | _ => none
def W_check_table_shades : DW1 := WF f_chkT
def fltJ (d lo hi : D) : Option Str := match d with
  | .ins c _ _ => if okI c = true then some "WrongKind" else none
  | d => fltN d lo hi
def W_law_number_fault_iv : DW1 := WF fun ds => match ds with | [d, lo, hi] => (fltJ d lo hi).map fun z => .ok (.str z) | _ => none
theorem mono_check_table_shades : MonoW W_check_table_shades := WF_mono
theorem mono_law_number_fault_iv : MonoW W_law_number_fault_iv := WF_mono
theorem len_chkT : ∀ ds, (f_chkT ds).isSome = true → ds.length = 2 := fun ds h => by
  unfold f_chkT at h; split at h <;> first | rfl | cases h
theorem len_check_table_shades : ∀ ds Q E, W_check_table_shades ds Q E → ds.length = 2 := lenT len_chkT
theorem len_law_number_fault_iv : ∀ ds Q E, W_law_number_fault_iv ds Q E → ds.length = 3 := lenF fun ds r h => by split at h <;> first | rfl | cases h
end C
set_option Elab.async false
set_option maxRecDepth 100000
set_option maxHeartbeats 1000000
set_option linter.unusedVariables false
/-! promises that laws on scores share -/
namespace C
open PySem PySem.Spec PyProof.Rows L2 NdefX DL
def iD (r : List Int) : List D := r.map D.int
/-- one place's step of the butterfly -/
def bfly (p : Nat) (r : List Int) : List Int := (List.range r.length).map fun x => if x / 2 ^ p % 2 = 1 then r.getD (x - 2 ^ p) 0 - r.getD x 0 else r.getD x 0 + r.getD (x + 2 ^ p) 0
def bflys (r : List Int) : Nat → List Int
  | 0 => r
  | p + 1 => bfly p (bflys r p)
def sgI (l : List Nat) : List Int := l.map fun (n : Nat) => 1 - 2 * (n : Int)
/-- the scores of a table, its distances from the sum-tables, the least, where it stands -/
def scL (w : Nat) (l : List Nat) : List Int := bflys (sgI l) w
def dsL (w : Nat) (l : List Nat) : List Int := (scL w l).map fun m => (2 ^ w - m) / 2
def minI : List Int → Int
  | [] => 0
  | [a] => a
  | a :: b :: r => min a (minI (b :: r))
/-- the one set whose sum-table is nearer than a quarter -/
def uniqN (w : Nat) (l : List Nat) : Option Nat := (List.range (2 ^ w)).find? fun x => decide ((2 : Int) ^ w < 2 * (scL w l).getD x 0)
/-- a def of one table -/
inductive TabR (g : Nat → List Nat → D) : D → Kd → Prop
  | bad {d : D} : isT d = some false → TabR g d (.error (Er1 "WrongKind" "table"))
  | good {w : Nat} {l : List Nat} : TB w l → TabR g (tb w l) (.ok (g w l))
def W_width_of_length : DW1 := fun ds Q _ => ∃ w : Nat, ds = [.int (2 ^ w : Nat)] ∧ w ≤ 6 ∧ Q (.sh (.int (w : Nat)))
theorem mono_width_of_length : MonoW W_width_of_length := fun _ _ _ _ _ hq _ ⟨w, a, b, c⟩ => ⟨w, a, b, hq _ c⟩
theorem len_width_of_length : ∀ ds Q E, W_width_of_length ds Q E → ds.length = 1 := fun _ _ _ ⟨_, e, _⟩ => by rw [e]; rfl
end C
set_option Elab.async false
set_option maxRecDepth 100000
set_option maxHeartbeats 4000000
set_option linter.unusedVariables false
/-! data-level layer, part Mm: sorted of a list of ints; a new list of leaves out of what is lent -/
namespace DL
open PySem PySem.Spec PyProof.Rows L2 NdefX
section
variable {G : Gx} {X : Cx} {a : Expr} {wr : DT (List Sl)} {p pos : Pos}
end
section
variable {G : Gx} {X : Cx} {e : Expr} {we : DT Sl}
end
end DL
set_option Elab.async false
set_option maxRecDepth 100000
set_option maxHeartbeats 4000000
set_option linter.unusedVariables false
/-! data-level layer, part Mn: targets of any shape (comprehensions, loops, assignments); calls with defaults and with values and names mixed -/
namespace DL
open PySem PySem.Spec PyProof.Rows L2 NdefX
inductive Pt where
  | nm (i : Nat)
  | tp (ps : List Pt)
mutual
def ptD : Pt → D → DEnv → Option DEnv
  | .nm i, d, ρ => some (ρ.set i (.sh d))
  | .tp ps, d, ρ => match d with
    | .tup ds => ptsD ps ds ρ
    | _ => none
def ptsD : List Pt → List D → DEnv → Option DEnv
  | [], ds, ρ => match ds with
    | [] => some ρ
    | _ :: _ => none
  | p :: ps, ds, ρ => match ds with
    | [] => none
    | d :: ds => match ptD p d ρ with
      | some ρ' => ptsD ps ds ρ'
      | none => none
end
mutual
def ptIx : Pt → List Nat
  | .nm i => [i]
  | .tp ps => ptsIx ps
def ptsIx : List Pt → List Nat
  | [] => []
  | p :: ps => ptIx p ++ ptsIx ps
end
def dgPt (p : Pt) : DG := fun d ρ Q => match ptD p d ρ with
  | some ρ' => Q ρ'
  | none => False
section
variable {G : Gx} {K : PySem.W.Frag}
end
/-! ### comprehensions -/
def outs : List Nat → DEnv → (List Sl → DEnv → Prop) → Prop
  | [], ρ, Q => Q [] ρ
  | i :: is, ρ, Q => outs is ρ fun xs ρ' => ∃ x, ρ'[i]? = some x ∧ StillS x ∧ Q (x :: xs) (ρ'.set i .un)
def backs : List Nat → List Sl → DEnv → DEnv
  | i :: is, x :: xs, ρ => backs is xs (ρ.set i x)
  | _, _, ρ => ρ
def wips : List Nat → DEnv → DEnv
  | [], ρ => ρ
  | i :: is, ρ => (wips is ρ).set i .un
theorem stillS_un : StillS .un = True := propext ⟨fun _ => trivial, fun _ => .inl rfl⟩
theorem stillS_sh {d : D} : StillS (.sh d) = True := propext ⟨fun _ => trivial, fun _ => .inr ⟨d, rfl⟩⟩
def lcP (p : Pt) (wt : DT Bool) (we : DT Sl) (Q : List D → DEnv → Prop) : List D → List D → DEnv → Prop
  | [], acc, ρ => Q acc ρ
  | d :: ds, acc, ρ => dgPt p d ρ fun ρ' => wt ρ' (fun b ρ2 => if b = true then we ρ2 (fun y ρ3 => acc.length < sizeLine ∧ lcP p wt we Q ds (acc ++ [y.dat]) (wips (ptIx p) ρ3)) noE else lcP p wt we Q ds acc (wips (ptIx p) ρ2)) noE
def wLcP (p : Pt) (wi : DT (List D)) (wt : DT Bool) (we : DT Sl) : DT Sl := fun ρ Q E => wi ρ (fun items ρ1 => outs (ptIx p) ρ1 fun xs ρ0 =>
  lcP p wt we (fun acc ρ2 => ∀ q, Q (.ow q acc) (backs (ptIx p) xs ρ2)) items [] ρ0) E
section
variable {G : Gx} {X : Cx}
/-! ### a, (b, c) = e -/
def wUnp (p : Pt) (we : DT Sl) : DS := fun D ρ E => we ρ (fun x ρ1 => match ptD p x.dat ρ1 with
  | some ρ2 => D.nx ρ2
  | none => False) E
end
/-! ### defaults; values and names mixed -/
inductive Src where
  | w (i : Nat)
  | d (j : Nat) (x : D)
def fillD (sr : List Src) (ds : List D) : List D := sr.map fun s => match s with
  | .w i => ds.getD i .non
  | .d _ x => x
def wApp (wa wb : DT (List Sl)) : DT (List Sl) := fun ρ Q E => wa ρ (fun xs ρ1 => wb ρ1 (fun ys ρ2 => Q (xs ++ ys) ρ2) E) E
section
variable {G : Gx} {X : Cx} {e : Expr} {es : List Expr} {p pos : Pos}
end
section
variable {P : Program} {w : World} {K : PySem.W.Frag} {mg : Str → Option Value} {base : Heap} {x y qual : Str} {params : Arguments} {body : List Stmt} {scope : Scope} {f : Addr} {fd : FuncData} {dvs : List V}
end
end DL
set_option Elab.async false
set_option maxRecDepth 100000
set_option maxHeartbeats 1000000
set_option linter.unusedVariables false
/-! short ways to promises; votes, mending -/
namespace C
open PySem PySem.Spec PyProof.Rows L2 NdefX DL
/-- how a call ends -/
def ends (r : Kd) (Q : Sl → Prop) (E : Er → Prop) : Prop := match r with
  | .ok d => Q (.sh d)
  | .error e => E e
theorem ends_mono {r : Kd} {Q Q' : Sl → Prop} {E E' : Er → Prop} (hq : ∀ x, Q x → Q' x) (he : ∀ e, E e → E' e) (h : ends r Q E) : ends r Q' E' := by
  cases r with
  | ok d => exact hq _ h
  | error e => exact he _ h
/-! ### small checks -/
/-! ### votes -/
/-- at how many words l differs from itself moved by m -/
def onesN (l : List Nat) (m : Nat) : Nat := ((List.range l.length).map fun x => if l.getD x 0 = l.getD (m ^^^ x) 0 then 0 else 1).sum
/-! ### bits near a sum-table -/
end C
set_option Elab.async false
set_option maxRecDepth 100000
set_option maxHeartbeats 4000000
set_option linter.unusedVariables false
/-! data-level layer, part y: list comprehensions over a list while an error is handled -/
namespace DL
open PySem PySem.Spec PyProof.Rows L2 NdefX

/-- a block's context that bears the pins -/
abbrev blkH (X : Cx) (s : Shared) (H : Hp) (scope : Scope) (cenv : Env) (fp : List Addr) : Cx := { X.blk s H scope cenv fp with pn := X.pn }
theorem repin {X : Cx} {s s1 : Shared} {H H1 : Hp} {scope : Scope} {cenv : Env} {fp : List Addr} {σ : St} (I : Inv (X.blk s H scope cenv fp) [] σ H1 s1)
    (h : ∀ p ∈ X.pn, s1.heap.get? p.1 = some p.2 ∧ H1 p.1 = none ∧ p.1 ≠ cenv.locals ∧ p.1 ∉ frs X.stack ∧ ∀ v, p.2.data ≠ .cell v) : Inv (blkH X s H scope cenv fp) [] σ H1 s1 :=
  have o := I.ok
  { ok := { mod := o.mod, kind := o.kind, glob := o.glob, blt := o.blt, above := o.above, inj := o.inj, has := o.has, cab := o.cab, hd := o.hd, frames := o.frames, stk := o.stk, exf := o.exf, bs := o.bs, bsz := o.bsz, noex := o.noex, exfs := o.exfs, funs := o.funs, frf := o.frf },
    os := I.os, bare := I.bare, base := I.base, loc := I.loc, cell := I.cell, free := I.free, freeC := I.freeC, pin := fun p hp => h p (by simpa using hp), hok := I.hok, len := I.len }

section
variable {X : Cx}
end
/-- the check of a block's names -/
def blkB (N : List Str) (sc scope : Scope) (own : List (Str × Nat)) : Bool :=
  (match scope.kind with | .function => true | _ => false) && (scope.names.all (fun y => match scope.names.lookup y.1 with | some k => k == y.2 | none => false) && (own.all (fun p => match N[p.2]? with | some z => z == p.1 | none => false) &&
  (scope.names.all (fun y => !(y.2 == .free) || (match sc.names.lookup y.1 with | some k => k == .cell || k == .free | none => false)) &&
  scope.names.all (fun y => !(y.2 == .local || y.2 == .cell) || ((own.map (·.1)).contains y.1 || !N.contains y.1)))))
theorem blkOk_of {N : List Str} {sc scope : Scope} {own : List (Str × Nat)} (h : blkB N sc scope own = true) : BlkOk N sc scope own := by
  unfold blkB at h
  simp only [Bool.and_eq_true, List.all_eq_true] at h
  obtain ⟨h1, h2, h3, h4, h5⟩ := h
  refine ⟨?_, fun y hy => ?_, fun p hp => ?_, fun y hy e => ?_, fun y hy e => ?_⟩
  · split at h1
    · assumption
    · cases h1
  · have := h2 y hy
    split at this
    · rename_i k e
      rw [e, eq_of_beq this]
    · cases this
  · have := h3 p hp
    split at this
    · rename_i k e
      rw [e, eq_of_beq this]
    · cases this
  · have := h4 y hy
    rw [e] at this
    simp only [beq_self_eq_true, Bool.not_true, Bool.false_or] at this
    split at this
    · rename_i k q
      rw [Bool.or_eq_true] at this
      rcases this with z | z
      · exact .inl (by rw [q, eq_of_beq z])
      · exact .inr (by rw [q, eq_of_beq z])
    · cases this
  · have := h5 y hy
    have e2 : (y.2 == NameKind.local || y.2 == NameKind.cell) = true := by rcases e with e | e <;> rw [e] <;> rfl
    rw [e2, Bool.not_true, Bool.false_or, Bool.or_eq_true] at this
    rcases this with z | z
    · exact .inl (by simpa using z)
    · exact .inr (by simpa using z)
section
variable {P : Program} {w : World} {K : PySem.W.Frag} {mg : Str → Option Value} {base : Heap} {x qual : Str} {params : Arguments} {body : List Stmt} {scope : Scope} {f : Addr} {fd : FuncData}
end
end DL
set_option Elab.async false
set_option maxRecDepth 100000
set_option maxHeartbeats 4000000
set_option linter.unusedVariables false
/-! data-level layer, part Mo: list(range(..)); isinstance with a tuple of classes, of errors too; x.count(e) -/
namespace DL
open PySem PySem.Spec PyProof.Rows L2 NdefX
/-! ### list(range(..)) -/
def wListR (wi : DT (List D)) : DT Sl := fun ρ Q E => wi ρ (fun ds ρ1 => ds.length ≤ 16777216 ∧ ∀ p, Q (.ow p ds) ρ1) E
section
variable {G : Gx} {X : Cx} {a b : Expr} {wa wb : DT Sl} {p q pos pos2 : Pos}
end
/-- a value that is told still from here on -/
def wFrz (we : DT Sl) : DT Sl := fun ρ Q E => we ρ (fun x ρ1 => Q (.sh x.dat) ρ1) E
theorem wFrz_mono {we : DT Sl} (h : Mono we) : Mono (wFrz we) := fun _ _ _ _ _ hq he q => h (fun x ρ1 k => hq _ _ k) he q
theorem de_frz {G : Gx} {X : Cx} {e : Expr} {we : DT Sl} (he : DE G X e we) : DE G X e (wFrz we) := by
  refine ⟨wFrz_mono he.mono, pe_weak he.pe fun σ H Q h => ?_⟩
  obtain ⟨ρ, τ, hA, hw⟩ := h
  refine ⟨ρ, τ, hA, he.mono (fun x ρ1 k nx l v H1 A1 => ?_) (fun _ _ e => e) hw⟩
  exact k (fun z => by cases z) l v H1 ⟨A1.len, A1.freezeLast nx⟩
/-! ### isinstance with classes -/
section
variable {K : PySem.W.Frag} {so : Option Addr} {B H : Hp} {v : V} {d : D}
end
/-- one of the classes named es -/
def isAny (cs : List Str) (es : List Str) : D → Option Bool
  | .exc c _ _ _ => if cs.contains c && es.all cs.contains then some (es.any fun e => c == e || e == "ShadeError") else none
  | _ => none
section
variable {G : Gx} {X : Cx} {a : Expr} {wa : DT Sl} {p tpos pos : Pos} {es : List Expr} {x1 : Nat}
end
theorem ErF.any {K : PySem.W.Frag} {mg : Str → Option Value} {cs : List Str} (T : ErF K mg cs) (es : List Str) : ∀ d b, isAny cs es d = some b → ∃ l : List (Value × Bool), l.map (·.1) = es.map (fun e => Value.ref (He.ga K e)) ∧ l.any (·.2) = b ∧ ∀ q ∈ l, Isi K d q.1 q.2 := by
  intro d b h
  unfold isAny at h
  split at h
  · rename_i c a p oe
    split at h
    · rename_i hc
      rw [Bool.and_eq_true] at hc
      obtain ⟨h1, h2⟩ := hc
      cases h
      refine ⟨es.map fun e => (.ref (He.ga K e), c == e || e == "ShadeError"), by rw [List.map_map]; rfl, by rw [List.any_map]; rfl, fun q hq => ?_⟩
      obtain ⟨e, he, rfl⟩ := List.mem_map.mp hq
      have hce : cs.contains e = true := List.all_eq_true.mp h2 e he
      exact T.is hce _ _ (by show (if cs.contains c = true then some (c == e || e == "ShadeError") else none) = _; rw [if_pos h1])
    · cases h
  · cases h
/-! ### x.count(e) -/
def cntV (x : V) (xs : List V) : Nat := xs.countP fun y => eqV y x
section
variable {G : Gx} {X : Cx} {a e : Expr} {wa we : DT Sl} {apos pos : Pos}
/-- .. of a list that stays one's own -/
def wCountO (i : Nat) (we : DT Sl) : DT Sl := fun ρ Q E => match ρ[i]? with
  | some (.ow _ _) => we ρ (fun y ρ1 => match ρ1[i]? with
    | some (.ow _ ds) => ∃ k ys, flatOf y.dat = some k ∧ flatsOf ds = some ys ∧ Q (.sh (.int (cntV k ys : Nat))) ρ1
    | _ => False) E
  | _ => False
end
end DL
set_option Elab.async false
set_option maxRecDepth 100000
set_option maxHeartbeats 1000000
set_option linter.unusedVariables false
/-! promises of defs on breaking pairs, and of what the laws on pairs share -/
namespace C
open PySem PySem.Spec PyProof.Rows L2 NdefX DL
/-- a def of one table that answers with an own list -/
def W_tabO (g : Nat → List Nat → List D) : DW1 := fun ds Q E => ∃ d r, ds = [d] ∧ TabR (fun w l => .lst (g w l)) d r ∧ (∀ v, r = .ok (.lst v) → ∀ p, Q (.ow p v)) ∧ ∀ e, r = .error e → E e
theorem tabO_mono {g : Nat → List Nat → List D} : MonoW (W_tabO g) := fun _ _ _ _ _ hq he ⟨d, r, a, b, c, e⟩ => ⟨d, r, a, b, fun v k p => hq _ (c v k p), fun v k => he _ (e v k)⟩
theorem tabO_len {g : Nat → List Nat → List D} : ∀ ds Q E, W_tabO g ds Q E → ds.length = 1 := fun _ _ _ ⟨_, _, e, _⟩ => by rw [e]; rfl
/-! ### the laws' own -/
end C
set_option Elab.async false
set_option maxRecDepth 100000
set_option maxHeartbeats 1000000
set_option linter.unusedVariables false
/-! promises of the defs on margins, unlike counts and nearest sets that more laws share -/
namespace C
open PySem PySem.Spec PyProof.Rows L2 NdefX DL
def mgI (w : Nat) (l : List Nat) (x : Nat) : Int := 2 ^ w - 2 * (onesN l x : Nat)
/-- at how many words two rows differ -/
def unlN (l m : List Nat) : Nat := ((List.range l.length).map fun x => if l.getD x 0 = m.getD x 0 then 0 else 1).sum
end C
set_option Elab.async false
set_option maxRecDepth 100000
set_option maxHeartbeats 4000000
set_option linter.unusedVariables false
/-! data-level layer, part p: range(a, b, step) with a step over 0 -/
namespace DL
open PySem PySem.Spec PyProof.Rows L2 NdefX
/-- lo, lo + d, .. -/
def stepD (lo d : Int) (n : Nat) : List D := (List.range n).map fun (i : Nat) => D.int (lo + (i : Int) * d)
def stepN (lo hi d : Int) : Nat := (Builtin.Range.rangeSize lo hi d).toNat
section
variable {G : Gx} {X : Cx} {tg : Expr} {pos : Pos}
def Rng3 (i j d : Int) : Prop := -(2 ^ 40) ≤ i ∧ i < 2 ^ 40 ∧ -(2 ^ 40) ≤ j ∧ j < 2 ^ 40 ∧ 0 < d ∧ d < 2 ^ 20
def wRng3 (w : DT (List Sl)) : DT (List D) := fun ρ Q E => w ρ (fun xs ρ1 => match datas xs with
  | [.int i, .int j, .int d] => Rng3 i j d ∧ Q (stepD i d (stepN i j d)) ρ1
  | _ => False) E
end
end DL
set_option Elab.async false
set_option maxRecDepth 100000
set_option maxHeartbeats 1000000
set_option linter.unusedVariables false
/-! words of the laws on weights of cosets -/
namespace C
open PySem PySem.Spec PyProof.Rows L2 NdefX DL
/-- the word with x's high part and y's low part -/
def jwN (k x y : Nat) : Nat := 2 ^ k * (x / 2 ^ k) + y
end C
set_option Elab.async false
set_option maxRecDepth 100000
set_option maxHeartbeats 1000000
set_option linter.unusedVariables false
/-! what follows, hidden while a part is walked -/
namespace DL
open PySem PySem.Spec PyProof.Rows L2
theorem wOp_k {ro : RO2} {wa wb : DT Sl} {ρ : DEnv} {Q : Sl → DEnv → Prop} {E : EC} (h : ∀ P : Sl → DEnv → Prop, (∀ x ρ1, wb ρ1 (fun y ρ2 => ro x.dat y.dat fun z => Q z ρ2) E → P x ρ1) → wa ρ P E) : wOp ro wa wb ρ Q E := h _ fun _ _ k => k
theorem wSet_k {i : Nat} {w : DT Sl} {N : DEn} {ρ : DEnv} {E : EC} (h : ∀ P : Sl → DEnv → Prop, (∀ x ρ1, N.nx (ρ1.set i x) → P x ρ1) → w ρ P E) : wSet i w N ρ E := h _ fun _ _ k => k
/-! ### a test that is lent some slots -/
section
variable {G : Gx} {X : Cx} {e : Expr} {wt : DT Bool}
end
end DL
set_option Elab.async false
set_option maxRecDepth 100000
set_option maxHeartbeats 1000000
set_option linter.unusedVariables false
/-! promises of the defs on weights of starts that more laws share -/
namespace C
open PySem PySem.Spec PyProof.Rows L2 NdefX DL
end C
set_option maxRecDepth 100000
/-! D-level programs that many laws share, printed by gen_defs.py -/
namespace C
open PySem PySem.Spec PyProof.Rows L2 NdefX DL
/-- _law_is_integer -/
def p_law_is_integer : DS :=
  (wSeq (wRet (wAndV (wIsi isInt [] (wVar 0)) (wNotV (wIsi isBool [] (wVar 0)))))
  wNext)
/-- _law_mixed -/
def p_law_mixed : DS :=
  (wSeq (wSet 2 (wMod (wInt (wCons (wOp roAdd (wOp roAdd (wMul (wMod (wInt (wCons (wVar 0) wNil)) (wC (.int 2147483647))) (wC (.int 48271))) (wMul (wVar 1) (wC (.int 69621)))) (wC (.int 8191))) wNil)) (wC (.int 2147483647))))
  (wSeq (wSet 3 (wMod (wInt (wCons (wOp roAdd (wOp roAdd (wMul (wVar 2) (wVar 2)) (wMul (wVar 1) (wC (.int 40692)))) (wC (.int 77))) wNil)) (wC (.int 2147483399))))
  (wSeq (wRet (wMod (wInt (wCons (wOp roAdd (wOp roAdd (wMul (wFdiv (wVar 3) (wC (.int 46337))) (wC (.int 7919))) (wMul (wMod (wInt (wCons (wVar 3) wNil)) (wC (.int 46337))) (wC (.int 46327)))) (wMod (wInt (wCons (wVar 2) wNil)) (wC (.int 65521)))) wNil)) (wC (.int 2147483399))))
  wNext)))
/-- _law_wide -/
def p_law_wide : DS :=
  (wSeq (wSet 3 (wCall W_law_mixed (wCons (wVar 0) (wCons (wVar 1) wNil))))
  (wSeq (wFor (wRng1 (wCons (wFdiv (wBits (wVar 2)) (wC (.int 20))) wNil)) (dgName 4) (wSeq (wSet 3 (wOp roAdd (wMul (wVar 3) (wC (.int 2147483399))) (wCall W_law_mixed (wCons (wVar 0) (wCons (wOp roAdd (wVar 1) (wMul (wC (.int 1000003)) (wOp roAdd (wVar 4) (wC (.int 1))))) wNil)))))
  wNext))
  (wSeq (wRet (wMod (wInt (wCons (wVar 3) wNil)) (wVar 2)))
  wNext)))
/-- _law_store -/
def p_law_store : DS :=
  (wSeq (wSet 1 (wC (.int 900001)))
  (wSeq (wFor (wItemsS (wVar 0)) (dgName 2) (wSeq (wSet 1 (wMod (wInt (wCons (wOp roAdd (wOp roAdd (wMul (wVar 1) (wC (.int 69621))) (wMod (wInt (wCons (wVar 2) wNil)) (wC (.int 2147483629)))) (wC (.int 11))) wNil)) (wC (.int 2147483629))))
  wNext))
  (wSeq (wRet (wLst (wCons (wList (wCons (wVar 0) wNil)) (wCons (wC (.int 0)) (wCons (wC (.int 0)) (wCons (wVar 1) (wCons (wC (.int 0)) wNil)))))))
  wNext)))
/-- _law_take -/
def p_law_take : DS :=
  (wSeq (wIf (wTest (wLt (wVar 1) (wC (.int 2)))) (wSeq (wRet (wC (.int 0)))
  wNext) wNext)
  (wSeq (wSetIx 0 (wOp roAdd (wIxO 0 (wC (.int 4))) (wC (.int 1))) (wC (.int 4)))
  (wSeq (wIf (wAndB (wTest (wOp (roEq false) (wIxO 0 (wC (.int 2))) (wC (.int 0)))) (wTest (wLt (wIxO 0 (wC (.int 1))) (wLen (wCons (wIxO 0 (wC (.int 0))) wNil))))) (wSeq (wSet 2 (wInt (wCons (wIx (wIxO 0 (wC (.int 0))) (wIxO 0 (wC (.int 1)))) wNil)))
  (wSeq (wSetIx 0 (wOp roAdd (wIxO 0 (wC (.int 1))) (wC (.int 1))) (wC (.int 1)))
  (wSeq (wIf (wTest (wLt (wVar 2) (wPow (wC (.int 10)) (wC (.int 18))))) (wSeq (wRet (wCall W_law_wide (wCons (wVar 2) (wCons (wIxO 0 (wC (.int 4))) (wCons (wVar 1) wNil)))))
  wNext) wNext)
  (wSeq (wSetIx 0 (wVar 2) (wC (.int 2)))
  wNext)))) wNext)
  (wSeq (wIf (wTest (wGt (wIxO 0 (wC (.int 2))) (wC (.int 0)))) (wSeq (wSet 3 (wMod (wInt (wCons (wIxO 0 (wC (.int 2))) wNil)) (wVar 1)))
  (wSeq (wSetIx 0 (wFdiv (wInt (wCons (wIxO 0 (wC (.int 2))) wNil)) (wVar 1)) (wC (.int 2)))
  (wSeq (wRet (wVar 3))
  wNext))) wNext)
  (wSeq (wRet (wCall W_law_wide (wCons (wIxO 0 (wC (.int 3))) (wCons (wIxO 0 (wC (.int 4))) (wCons (wVar 1) wNil)))))
  wNext)))))
/-- _law_near -/
def p_law_near : DS :=
  (wSeq (wSet 3 (wCall W_law_take (wCons (wVar 0) (wCons (wC (.int 12)) wNil))))
  (wSeq (wIf (wTest (wLt (wVar 3) (wC (.int 4)))) (wSeq (wRet (wIx (wLst (wCons (wVar 1) (wCons (wVar 2) (wCons (wMin (wCons (wOp roAdd (wVar 1) (wC (.int 1))) (wCons (wVar 2) wNil))) (wCons (wMax (wCons (wSub (wVar 2) (wC (.int 1))) (wCons (wVar 1) wNil))) wNil))))) (wVar 3)))
  wNext) wNext)
  (wSeq (wRet (wOp roAdd (wVar 1) (wCall W_law_take (wCons (wVar 0) (wCons (wOp roAdd (wSub (wVar 2) (wVar 1)) (wC (.int 1))) wNil)))))
  wNext)))
/-- _law_first_fault -/
def p_law_first_fault : DS :=
  (wSeq (wFor (wItemsL (wVar 0)) (dgName 1) (wSeq (wIf (wTest (wOp (roEq true) (wIx (wVar 1) (wC (.int 1))) (wC (.str "")))) (wSeq (wRet (wTup (wCons (wIx (wVar 1) (wC (.int 1))) (wCons (wIx (wVar 1) (wC (.int 0))) wNil))))
  wNext) wNext)
  wNext))
  (wSeq (wRet (wC .non))
  wNext))
end C
set_option maxRecDepth 100000
/-! D-level programs of the class of tables and of what its laws share, printed by gen_defs.py -/
namespace C
open PySem PySem.Spec PyProof.Rows L2 NdefX DL
/-- check_integer -/
def p_check_integer_tables : DS :=
  (wSeq (wIf (wOrB (wTest (wIsi isBool [] (wVar 1))) (wNotB (wTest (wIsi isInt [] (wVar 1))))) (wSeq (wRaise "WrongKind" (wVar 0))
  wNext) wNext)
  wNext)
/-- check_between -/
def p_check_between_tables : DS :=
  (wSeq (wDrop (wCall W_check_integer_tables (wCons (wVar 0) (wCons (wVar 1) wNil))))
  (wSeq (wIf (wOrB (wTest (wLt (wVar 1) (wVar 2))) (wTest (wGt (wVar 1) (wVar 3)))) (wSeq (wRaise "OutOfRange" (wVar 0))
  wNext) wNext)
  wNext))
/-- check_width -/
def p_check_width_tables : DS :=
  (wSeq (wDrop (wCall W_check_between_tables (wCons (wC (.str "width")) (wCons (wVar 0) (wCons (wC (.int 0)) (wCons (wC (.int 6)) wNil))))))
  wNext)
/-- check_row -/
def p_check_row_tables : DS :=
  (wSeq (wIf (wNotB (wTest (wIsi (orF isLst isTup) [] (wVar 1)))) (wSeq (wRaise "WrongKind" (wVar 0))
  wNext) wNext)
  (wSeq (wIf (wOrB (wTest (wLt (wLen (wCons (wVar 1) wNil)) (wVar 2))) (wTest (wGt (wLen (wCons (wVar 1) wNil)) (wVar 3)))) (wSeq (wRaise "WrongSize" (wVar 0))
  wNext) wNext)
  wNext))
/-- check_bits -/
def p_check_bits : DS :=
  (wSeq (wDrop (wCall W_check_row_tables (wCons (wC (.str "bits")) (wCons (wVar 0) (wCons (wVar 1) (wCons (wVar 2) wNil))))))
  (wSeq (wFor (wItemsLT (wVar 0)) (dgName 3) (wSeq (wDrop (wCall W_check_between_tables (wCons (wC (.str "bits")) (wCons (wVar 3) (wCons (wC (.int 0)) (wCons (wC (.int 1)) wNil))))))
  wNext))
  wNext))
/-- Table.__init__ -/
def p_Table_init (K : PySem.W.Frag) : DIb :=
  (iStm (wDrop (wCall W_check_width_tables (wCons (wVar 1) wNil)))
  (iStm (wDrop (wCall W_check_bits (wCons (wVar 2) (wCons (wShl (wC (.int 1)) (wVar 1)) (wCons (wShl (wC (.int 1)) (wVar 1)) wNil)))))
  (iFld K "Table" "wide" (wVar 1)
  (iFld K "Table" "held" (wTuple (wCons (wVar 2) wNil))
  iEnd))))
/-- Table.width -/
def p_Table_width : DS :=
  (wSeq (wRet (wFld okT "wide" (wVar 0)))
  wNext)
/-- Table.bits -/
def p_Table_bits : DS :=
  (wSeq (wRet (wFld okT "held" (wVar 0)))
  wNext)
/-- Table.signs -/
def p_Table_signs : DS :=
  (wSeq (wRet (wLc 1 (wItemsT (wFld okT "held" (wVar 0))) wTrue (wSub (wC (.int 1)) (wMul (wC (.int 2)) (wVar 1)))))
  wNext)
/-- _law_size -/
def p_law_size : DS :=
  (wSeq (wSet 1 (wC (.int 0)))
  (wSeq (wFor (wRng1 (wCons (wC (.int 20)) wNil)) (dgName 2) (wSeq (wSet 1 (wOp roAdd (wVar 1) (wAnd2 (wShr (wVar 0) (wVar 2)) (wC (.int 1)))))
  (wSeq (wIf (wTest (wLt (wShr (wVar 0) (wVar 2)) (wC (.int 2)))) (wSeq wBreak
  wNext) wNext)
  wNext)))
  (wSeq (wRet (wVar 1))
  wNext)))
/-- _law_parity -/
def p_law_parity : DS :=
  (wSeq (wRet (wMod (wInt (wCons (wCall W_law_size (wCons (wAnd2 (wVar 0) (wVar 1)) wNil)) wNil)) (wC (.int 2))))
  wNext)
/-- _law_width -/
def p_law_width : DS :=
  (wSeq (wSet 3 (wIx (wLst (wCons (wC (.int 0)) (wCons (wC (.int 1)) (wCons (wC (.int 1)) (wCons (wC (.int 2)) (wCons (wC (.int 2)) (wCons (wC (.int 2)) (wCons (wC (.int 3)) (wCons (wC (.int 3)) (wCons (wC (.int 3)) (wCons (wC (.int 3)) (wCons (wC (.int 4)) (wCons (wC (.int 4)) (wCons (wC (.int 4)) (wCons (wC (.int 5)) (wCons (wC (.int 5)) (wCons (wC (.int 6)) wNil))))))))))))))))) (wCall W_law_take (wCons (wVar 0) (wCons (wC (.int 16)) wNil)))))
  (wSeq (wRet (wMax (wCons (wVar 1) (wCons (wMin (wCons (wVar 2) (wCons (wVar 3) wNil))) wNil))))
  wNext))
end C
set_option maxRecDepth 100000
/-! what all laws share: the error classes, _law_kinds, _law_refusal -/
namespace C
open PySem PySem.Spec PyProof.Rows L2 NdefX DL
def errs : List Str := ["ShadeError", "WrongKind", "WrongSize", "OutOfRange", "BadText", "NotATable", "Spent", "TooFewPlaces", "WrongPaper", "UnknownName", "NameTaken", "NothingToUndo", "BookFull"]
def inis : List Str := ["WrongKind", "WrongSize", "OutOfRange", "BadText", "Spent", "WrongPaper", "UnknownName", "NameTaken"]
def okX : Str → Bool := fun c => inis.contains c
end C
set_option Elab.async false
set_option maxRecDepth 100000
set_option maxHeartbeats 1000000
set_option linter.unusedVariables false
namespace C
open PySem PySem.Spec PyProof.Rows L2 NdefX DL
theorem dat_sh (d : D) : (Sl.sh d).dat = d := rfl
theorem dat_ow (p : Addr) (ds : List D) : (Sl.ow p ds).dat = .lst ds := rfl
theorem dat_dp (F : List Addr) (d : D) : (Sl.dp F d).dat = d := rfl
theorem roEq_int {neg : Bool} {i j : Int} {Q : Sl → Prop} : roEq neg (.int i) (.int j) Q = Q (.sh (.bl (xor neg (decide (i = j))))) := by
  have e : PyData.eqv (.int i) (.int j) = decide (i = j) := by
    show (i == j) = _
    by_cases hij : i = j
    · subst hij; simp
    · rw [decide_eq_false hij]; simpa using hij
  unfold roEq
  refine propext ⟨fun ⟨p, q, h1, h2, _, _, h⟩ => ?_, fun h => ⟨.int i, .int j, rfl, rfl, rfl, rfl, ?_⟩⟩
  · simp only [toPy, Option.some.injEq] at h1 h2
    subst h1 h2
    rw [e] at h; exact h
  · rw [e]; exact h
theorem roEq_str {neg : Bool} {x y : Str} {Q : Sl → Prop} (h1 : PyData.canLay0 (.str x) = true) (h2 : PyData.canLay0 (.str y) = true) (h : Q (.sh (.bl (xor neg (decide (x = y)))))) : roEq neg (.str x) (.str y) Q := by
  refine ⟨.str x, .str y, rfl, rfl, ?_, ?_, ?_⟩
  · unfold SeqAt.shaped; rw [h1]; rfl
  · unfold SeqAt.shaped; rw [h2]; rfl
  · have e : PyData.eqv (.str x) (.str y) = decide (x = y) := by
      show (x == y) = _
      by_cases hxy : x = y
      · subst hxy; simp
      · rw [decide_eq_false hxy]; simpa using hxy
    rw [e]; exact h
local macro_rules | `(tactic| walk_at "dl") => `(tactic| simp only [wSeq, wIf, wNext, wRet, wRetN, wDrop, wSet, wTest, wAndB, wOrB, wNotB, wIsi, wVar, wC, wOp, wRaise, wCall, wCons, wNil, wFun, wPar, wTup, wNeg, wUn, wIfE, wAndV, wOrV, wNotV, wUnp2, wLst, wIxO, wLenO, wSetIx, wAppend, wDic0, wFor, wItemsL, wItemsS, wRng1, wRng2, wListRev, dgName, roAdd, roI, roI0, roB, roIx, roIsN, roF, roL, datas, List.map_cons, List.map_nil, entry, List.length_cons, List.length_nil, List.cons_append, List.nil_append, List.replicate, List.replicate_succ, List.replicate_zero, Nat.reduceAdd, Nat.reduceSub, Nat.zero_add,
  List.getElem?_cons_zero, List.getElem?_cons_succ, List.set_cons_zero, List.set_cons_succ, dat_sh, dat_ow, dat_dp, DL.isInt, DL.isBool, DL.isStr, DL.isLst, DL.isTup, PinD, Bool.not_true, Bool.not_false, Bool.false_eq_true, if_true, if_false, true_and, and_true, OkAD, bodyEnds, pInt1, pInt2, fAbs, fMin, fMax, pIntOf, fIntOf, pLen, fLen, pSeq, fSeq, reduceIte, decide_eq_true_eq, ite_true, ite_false, Bool.and_eq_true, Bool.not_eq_true', roEq_int, Bool.true_xor, Bool.false_xor])
/-! ### by functions -/
theorem WF_get {f : List D → Option (Except Er D)} {ds : List D} {Q : Sl → Prop} {E : Er → Prop} (h : WF f ds Q E) : (∃ d, f ds = some (.ok d) ∧ Q (.sh d)) ∨ ∃ e, f ds = some (.error e) ∧ E e := by
  unfold WF at h
  split at h
  · exact .inl ⟨_, by assumption, h⟩
  · exact .inr ⟨_, by assumption, h⟩
  · exact h.elim
theorem WF_ok {f : List D → Option (Except Er D)} {ds : List D} {Q : Sl → Prop} {E : Er → Prop} {d : D} (e : f ds = some (.ok d)) (h : Q (.sh d)) : WF f ds Q E := by unfold WF; rw [e]; exact h
theorem WF_err {f : List D → Option (Except Er D)} {ds : List D} {Q : Sl → Prop} {E : Er → Prop} {x : Er} (e : f ds = some (.error x)) (h : E x) : WF f ds Q E := by unfold WF; rw [e]; exact h
/-- the form of a call of check_integer -/
theorem chk_int {d : D} {z : Str} {Q : Sl → Prop} {E : Er → Prop} (hz : z.length ≤ 1000) (h1 : isI d = some true → Q (.sh .non)) (h2 : isI d = some false → E (Er1 "WrongKind" z)) (h : (isI d).isSome = true) : W_check_integer [d, .str z] Q E := by
  unfold W_check_integer
  cases hd : isI d with
  | none => rw [hd] at h; cases h
  | some b => cases b with
    | true => exact WF_ok (d := .non) (by unfold f_check_integer; simp only []; rw [if_pos hz, hd]; rfl) (h1 hd)
    | false => exact WF_err (x := Er1 "WrongKind" z) (by unfold f_check_integer; simp only []; rw [if_pos hz, hd]; rfl) (h2 hd)
end C
set_option Elab.async false
set_option maxRecDepth 100000
set_option maxHeartbeats 1000000
set_option linter.unusedVariables false
namespace C
open PySem PySem.Spec PyProof.Rows L2 NdefX DL
local macro_rules | `(tactic| walk_at "dl") => `(tactic| simp only [wSeq, wIf, wNext, wRet, wRetN, wDrop, wSet, wTest, wAndB, wOrB, wNotB, wIsi, wVar, wC, wOp, wRaise, wCall, wCons, wNil, wFun, wPar, wTup, wNeg, wUn, wIfE, wAndV, wOrV, wNotV, wUnp2, wLst, wIxO, wLenO, wSetIx, wAppend, wDic0, wFor, wItemsL, wItemsS, wRng1, wRng2, wListRev, dgName, roAdd, roI, roI0, roB, roIx, roIsN, roF, roL, datas, List.map_cons, List.map_nil, entry, List.length_cons, List.length_nil, List.cons_append, List.nil_append, List.replicate, List.replicate_succ, List.replicate_zero, Nat.reduceAdd, Nat.reduceSub, Nat.zero_add,
  List.getElem?_cons_zero, List.getElem?_cons_succ, List.set_cons_zero, List.set_cons_succ, dat_sh, dat_ow, dat_dp, DL.isInt, DL.isBool, DL.isStr, DL.isLst, DL.isTup, PinD, Bool.not_true, Bool.not_false, Bool.false_eq_true, if_true, if_false, true_and, and_true, OkAD, bodyEnds, pInt1, pInt2, fAbs, fMin, fMax, pIntOf, fIntOf, pLen, fLen, pSeq, fSeq, reduceIte, decide_eq_true_eq, ite_true, ite_false, Bool.and_eq_true, Bool.not_eq_true', roEq_int, Bool.true_xor, Bool.false_xor])
theorem atD_0 {a : D} {l : List D} : atD (a :: l) 0 = some a := by
  unfold atD atI ixN
  simp
theorem atD_1 {a b : D} {l : List D} : atD (a :: b :: l) 1 = some b := by
  unfold atD atI ixN
  rw [if_pos (by decide), if_pos (by simp only [List.length_cons]; omega)]
  rfl
theorem at0 {a : D} {l : List D} {P : D → Prop} : (∃ x, atD (a :: l) 0 = some x ∧ P x) = P a := propext ⟨fun ⟨x, e, h⟩ => by rw [atD_0] at e; cases e; exact h, fun h => ⟨a, atD_0, h⟩⟩
theorem at1 {a b : D} {l : List D} {P : D → Prop} : (∃ x, atD (a :: b :: l) 1 = some x ∧ P x) = P b := propext ⟨fun ⟨x, e, h⟩ => by rw [atD_1] at e; cases e; exact h, fun h => ⟨b, atD_1, h⟩⟩
/-! ### gcd, fractions in lowest terms -/
theorem bd_log {n : Nat} {i : Int} (h0 : 0 < n) (h : Bd n i) : i.natAbs.log2 < n := PySem.Flt.log2_lt_of h0 h
theorem bd_mono {n m : Nat} {i : Int} (h : Bd n i) (hm : n ≤ m) : Bd m i := Nat.lt_of_lt_of_le h (Nat.pow_le_pow_right (by decide) hm)
theorem bd_add {n : Nat} {i j : Int} (h1 : Bd n i) (h2 : Bd n j) : Bd (n + 1) (i + j) := by
  unfold Bd at *
  have : 2 ^ (n + 1) = 2 ^ n + 2 ^ n := by rw [Nat.pow_succ]; omega
  omega
end C
set_option Elab.async false
set_option maxRecDepth 100000
set_option maxHeartbeats 1000000
set_option linter.unusedVariables false
/-! fractions: plain mathematics -/
namespace C
end C
set_option Elab.async false
set_option maxRecDepth 100000
set_option maxHeartbeats 1000000
set_option linter.unusedVariables false
namespace C
open PySem PySem.Spec PyProof.Rows L2 NdefX DL
local macro_rules | `(tactic| walk_at "dl") => `(tactic| simp only [wSeq, wIf, wNext, wRet, wRetN, wDrop, wSet, wTest, wAndB, wOrB, wNotB, wIsi, wVar, wC, wOp, wRaise, wCall, wCons, wNil, wFun, wPar, wTup, wNeg, wUn, wIfE, wAndV, wOrV, wNotV, wUnp2, wLst, wIxO, wLenO, wSetIx, wAppend, wDic0, wFor, wItemsL, wItemsS, wRng1, wRng2, wListRev, dgName, roAdd, roI, roI0, roB, roIx, roIsN, roF, roL, datas, List.map_cons, List.map_nil, entry, List.length_cons, List.length_nil, List.cons_append, List.nil_append, List.replicate, List.replicate_succ, List.replicate_zero, Nat.reduceAdd, Nat.reduceSub, Nat.zero_add,
  List.getElem?_cons_zero, List.getElem?_cons_succ, List.set_cons_zero, List.set_cons_succ, dat_sh, dat_ow, dat_dp, DL.isInt, DL.isBool, DL.isStr, DL.isLst, DL.isTup, PinD, Bool.not_true, Bool.not_false, Bool.false_eq_true, if_true, if_false, true_and, and_true, OkAD, bodyEnds, pInt1, pInt2, fAbs, fMin, fMax, pIntOf, fIntOf, pLen, fLen, pSeq, fSeq, reduceIte, decide_eq_true_eq, ite_true, ite_false, Bool.and_eq_true, Bool.not_eq_true', roEq_int, Bool.true_xor, Bool.false_xor])
end C
set_option Elab.async false
set_option maxRecDepth 100000
set_option maxHeartbeats 1000000
set_option linter.unusedVariables false
namespace C
open PySem PySem.Spec PyProof.Rows L2 NdefX DL
local macro_rules | `(tactic| walk_at "dl") => `(tactic| simp only [wSeq, wIf, wNext, wRet, wRetN, wDrop, wSet, wTest, wAndB, wOrB, wNotB, wIsi, wVar, wC, wOp, wRaise, wCall, wCons, wNil, wFun, wPar, wTup, wNeg, wUn, wIfE, wAndV, wOrV, wNotV, wUnp2, wLst, wIxO, wLenO, wSetIx, wAppend, wDic0, wFor, wItemsL, wItemsS, wRng1, wRng2, wListRev, dgName, roAdd, roI, roI0, roB, roIx, roIsN, roF, roL, datas, List.map_cons, List.map_nil, entry, List.length_cons, List.length_nil, List.cons_append, List.nil_append, List.replicate, List.replicate_succ, List.replicate_zero, Nat.reduceAdd, Nat.reduceSub, Nat.zero_add,
  List.getElem?_cons_zero, List.getElem?_cons_succ, List.set_cons_zero, List.set_cons_succ, dat_sh, dat_ow, dat_dp, DL.isInt, DL.isBool, DL.isStr, DL.isLst, DL.isTup, PinD, Bool.not_true, Bool.not_false, Bool.false_eq_true, if_true, if_false, true_and, and_true, OkAD, bodyEnds, pInt1, pInt2, fAbs, fMin, fMax, pIntOf, fIntOf, pLen, fLen, pSeq, fSeq, reduceIte, decide_eq_true_eq, ite_true, ite_false, Bool.and_eq_true, Bool.not_eq_true', roEq_int, Bool.true_xor, Bool.false_xor])
theorem bd_neg {n : Nat} {a : Int} (h : Bd n a) : Bd n (-a) := by unfold Bd at *; omega
end C
set_option Elab.async false
set_option maxRecDepth 100000
set_option maxHeartbeats 1000000
set_option linter.unusedVariables false
namespace C
open PySem PySem.Spec PyProof.Rows L2 NdefX DL
local macro_rules | `(tactic| walk_at "dl") => `(tactic| simp only [wSeq, wIf, wNext, wRet, wRetN, wDrop, wSet, wTest, wAndB, wOrB, wNotB, wIsi, wVar, wC, wOp, wRaise, wCall, wCons, wNil, wFun, wPar, wTup, wNeg, wUn, wIfE, wAndV, wOrV, wNotV, wUnp2, wLst, wIxO, wLenO, wSetIx, wAppend, wDic0, wFor, wItemsL, wItemsS, wRng1, wRng2, wListRev, dgName, roAdd, roI, roI0, roB, roIx, roIsN, roF, roL, datas, List.map_cons, List.map_nil, entry, List.length_cons, List.length_nil, List.cons_append, List.nil_append, List.replicate, List.replicate_succ, List.replicate_zero, Nat.reduceAdd, Nat.reduceSub, Nat.zero_add,
  List.getElem?_cons_zero, List.getElem?_cons_succ, List.set_cons_zero, List.set_cons_succ, dat_sh, dat_ow, dat_dp, DL.isInt, DL.isBool, DL.isStr, DL.isLst, DL.isTup, PinD, Bool.not_true, Bool.not_false, Bool.false_eq_true, if_true, if_false, true_and, and_true, OkAD, bodyEnds, pInt1, pInt2, fAbs, fMin, fMax, pIntOf, fIntOf, pLen, fLen, pSeq, fSeq, reduceIte, decide_eq_true_eq, ite_true, ite_false, Bool.and_eq_true, Bool.not_eq_true', roEq_int, Bool.true_xor, Bool.false_xor])
/-! ### loops -/
theorem forD_ind {g : DG} {b : DS} {N : DEn} {E : EC} (J : List D → DEnv → Prop) (hnil : ∀ ρ, J [] ρ → N.nx ρ) (hcons : ∀ d ds ρ, J (d :: ds) ρ → ∀ K : DEnv → Prop, (∀ ρ2, J ds ρ2 → K ρ2) → g d ρ (fun ρ' => b { N with nx := K, ct := K, bk := N.nx } ρ' E)) : ∀ ds ρ, J ds ρ → forD g b N E ds ρ
  | [], ρ, h => hnil ρ h
  | d :: ds, ρ, h => hcons d ds ρ h _ fun ρ2 k => forD_ind J hnil hcons ds ρ2 k
theorem rangeD_succ {lo : Int} {n : Nat} : rangeD lo (n + 1) = .int lo :: rangeD (lo + 1) n := by
  unfold rangeD
  rw [List.range_succ_eq_map, List.map_cons, List.map_map]
  congr 1
  · simp
  · refine List.map_congr_left fun a _ => ?_
    show D.int _ = D.int _
    congr 1
    show lo + ((a + 1 : Nat) : Int) = lo + 1 + a
    omega
/-- a loop over a range, by a word over the turn -/
theorem forD_rng {g : DG} {b : DS} {N : DEn} {E : EC} (J : Nat → DEnv → Prop) {n : Nat} (hend : ∀ ρ, J n ρ → N.nx ρ) (hstep : ∀ k ρ, k < n → J k ρ → ∀ K : DEnv → Prop, (∀ ρ2, J (k + 1) ρ2 → K ρ2) → g (.int k) ρ (fun ρ' => b { N with nx := K, ct := K, bk := N.nx } ρ' E)) : ∀ {ρ}, J 0 ρ → forD g b N E (rangeD 0 n) ρ := by
  intro ρ h
  refine forD_ind (fun ds ρ => ∃ k : Nat, k ≤ n ∧ ds = rangeD k (n - k) ∧ J k ρ) ?_ ?_ _ _ ⟨0, by omega, by simp, h⟩
  · rintro ρ ⟨k, hk, e, hj⟩
    cases hm : n - k with
    | zero =>
      have : k = n := by omega
      subst this
      exact hend _ hj
    | succ m => rw [hm, rangeD_succ] at e; cases e
  · rintro d ds ρ ⟨k, hk, e, hj⟩ K hK
    cases hm : n - k with
    | zero => rw [hm] at e; cases e
    | succ m =>
      rw [hm, rangeD_succ] at e
      cases e
      refine hstep k ρ (by omega) hj K fun ρ2 k2 => hK ρ2 ⟨k + 1, by omega, ?_, k2⟩
      have : n - (k + 1) = m := by omega
      rw [this]
      rfl
theorem cm_r {i j : Int} (h : -(2 ^ 64) < j ∧ j < 2 ^ 64) : CMulA i j := .inl (.inr h)
theorem cm_l {i j : Int} (h : -(2 ^ 64) < i ∧ i < 2 ^ 64) : CMulA i j := .inl (.inl h)
theorem fm {i m : Int} (h : 0 < m) : 0 ≤ i.fmod m ∧ i.fmod m < m := ⟨Int.fmod_nonneg_of_pos i h, Int.fmod_lt_of_pos i h⟩
theorem cnz {i j : Int} (h : j ≠ 0 := by decide) : CNz i j := h
theorem cdv {i j : Int} (h : j ≠ 0 ∧ j.natAbs.log2 < 9000 := by decide) : CDivA i j := h
theorem atD_in {l : List D} {i : Int} (h0 : 0 ≤ i) (h : i < l.length) : ∃ x, x ∈ l ∧ atD l i = some x := by
  have hn : i.toNat < l.length := by omega
  refine ⟨l[i.toNat], List.getElem_mem hn, ?_⟩
  unfold atD atI ixN
  rw [if_pos (by omega), if_pos (by omega)]
  exact List.getElem?_eq_getElem hn
theorem sat_law_mixed : ∀ ds Q E', W_law_mixed ds Q E' → p_law_mixed (bodyEnds Q) (entry 4 ds) (fun e _ => E' e) := by
  rintro ds Q E' ⟨⟨c, n, rfl⟩, h, _⟩
  unfold p_law_mixed
  walk_at "dl"
  have b1 : ∀ x : Int, 0 ≤ x.fmod 2147483647 ∧ x.fmod 2147483647 < 2147483647 := fun x => fm (by decide)
  refine ⟨cnz, cm_r (by decide), cm_r (by decide), cnz, cm_l (by have := b1 (c.fmod 2147483647 * 48271 + n * 69621 + 8191); omega), cm_r (by decide), cnz, cdv, cm_r (by decide), cnz, cm_r (by decide), cnz, cnz, bodyR (h _ ⟨_, rfl, fm (by decide)⟩)⟩
theorem call_mixed {c n : Int} {Q : Sl → Prop} {E : Er → Prop} (h : ∀ r, 0 ≤ r → r < 2147483399 → Q (.sh (.int r))) : W_law_mixed [.int c, .int n] Q E :=
  ⟨⟨c, n, rfl⟩, fun z ⟨r, e, h1, h2⟩ => by rw [e]; exact h r h1 h2, fun _ z => z.elim⟩
theorem bits_le {m : Int} (h : Bd 100000 m) : Builtin.Int.intBits m ≤ 100000 := by
  unfold Builtin.Int.intBits
  split
  · omega
  · exact bd_log (by decide) h
theorem sat_law_wide : ∀ ds Q E', W_law_wide ds Q E' → p_law_wide (bodyEnds Q) (entry 5 ds) (fun e _ => E' e) := by
  rintro ds Q E' ⟨⟨c, n, m, rfl, hm, hB⟩, h, _⟩
  unfold p_law_wide
  walk_at "dl"
  refine call_mixed fun r _ _ => ⟨cdv, ⟨?_, ?_⟩, forD_rng (fun k ρ => ∃ t x, ρ = [.sh (.int c), .sh (.int n), .sh (.int m), .sh (.int t), x]) ?_ ?_ ⟨_, _, rfl⟩⟩
  · have := bits_le hB
    rw [Int.fdiv_eq_ediv_of_nonneg _ (by decide)]; omega
  · have := bits_le hB
    rw [Int.fdiv_eq_ediv_of_nonneg _ (by decide)]; omega
  · rintro ρ ⟨t, x, rfl⟩
    try walk_at "dl"
    exact ⟨cnz (by omega), bodyR (h _ ⟨_, rfl, c, n, m, rfl, fm (by omega)⟩)⟩
  · rintro k ρ hk ⟨t, x, rfl⟩ K hK
    try walk_at "dl"
    exact ⟨cm_r (by decide), cm_l (by decide), call_mixed fun r _ _ => hK _ ⟨_, _, rfl⟩⟩
theorem call_take {m : Int} {Q : Sl → Prop} {E : Er → Prop} (hB : Bd 8999 m) (h : ∀ r, 0 ≤ r → (r < m ∨ r = 0) → Q (.sh (.int r))) : W_law_take [.sto, .int m] Q E :=
  ⟨⟨m, rfl, hB⟩, fun z ⟨r, e, m', em, h1, h2⟩ => by cases em; rw [e]; exact h r h1 h2, fun _ z => z.elim⟩
theorem bd_lit {n : Nat} {i : Int} (h : i.natAbs < 2 ^ n := by decide) : Bd n i := h
theorem bd_le0 {n m : Nat} {i : Int} (h : i.natAbs < 2 ^ n) (hm : n ≤ m) : Bd m i := bd_mono h hm
theorem sat_law_near : ∀ ds Q E', W_law_near ds Q E' → p_law_near (bodyEnds Q) (entry 4 ds) (fun e _ => E' e) := by
  rintro ds Q E' ⟨⟨a, b, rfl, hab, ha, hb⟩, h, _⟩
  have hq : ∀ r, a ≤ r → r ≤ b → Q (.sh (.int r)) := fun r h1 h2 => h _ ⟨r, rfl, a, b, rfl, h1, h2⟩
  unfold p_law_near
  walk_at "dl"
  refine call_take (bd_le0 (n := 5) (by decide) (by decide)) fun r h0 h1 => ?_
  try walk_at "dl"
  by_cases hr : r < 4
  · rw [if_pos hr]
    intro p
    obtain ⟨x, hx, e⟩ := atD_in (l := [D.int a, .int b, .int (min (a + 1) b), .int (max (b - 1) a)]) h0 (by simpa using hr)
    refine ⟨x, e, bodyR ?_⟩
    simp only [List.mem_cons, List.not_mem_nil, or_false] at hx
    rcases hx with rfl | rfl | rfl | rfl <;> exact hq _ (by omega) (by omega)
  · rw [if_neg hr]
    refine call_take (bd_mono (bd_add (bd_mono (bd_add hb (bd_neg ha)) (Nat.le_refl _)) (bd_le0 (n := 1) (by decide) (by decide))) (by decide)) fun r' h0' h1' => bodyR (hq _ (by omega) (by omega))
theorem call_near {a b : Int} {Q : Sl → Prop} {E : Er → Prop} (hab : a ≤ b) (ha : Bd 8000 a) (hb : Bd 8000 b) (h : ∀ r, a ≤ r → r ≤ b → Q (.sh (.int r))) : W_law_near [.sto, .int a, .int b] Q E :=
  ⟨⟨a, b, rfl, hab, ha, hb⟩, fun z ⟨r, e, a', b', em, h1, h2⟩ => by cases em; rw [e]; exact h r h1 h2, fun _ z => z.elim⟩
end C
set_option Elab.async false
set_option maxRecDepth 100000
set_option maxHeartbeats 1000000
set_option linter.unusedVariables false
namespace C
open PySem PySem.Spec PyProof.Rows L2 NdefX DL
local macro_rules | `(tactic| walk_at "dl") => `(tactic| simp only [wSeq, wIf, wNext, wRet, wRetN, wDrop, wSet, wTest, wAndB, wOrB, wNotB, wIsi, wVar, wC, wOp, wRaise, wCall, wCons, wNil, wFun, wPar, wTup, wNeg, wUn, wIfE, wAndV, wOrV, wNotV, wUnp2, wLst, wIxO, wLenO, wSetIx, wAppend, wDic0, wFor, wItemsL, wItemsS, wRng1, wRng2, wListRev, dgName, roAdd, roI, roI0, roB, roIx, roIsN, roF, roL, datas, List.map_cons, List.map_nil, entry, List.length_cons, List.length_nil, List.cons_append, List.nil_append, List.replicate, List.replicate_succ, List.replicate_zero, Nat.reduceAdd, Nat.reduceSub, Nat.zero_add,
  List.getElem?_cons_zero, List.getElem?_cons_succ, List.set_cons_zero, List.set_cons_succ, dat_sh, dat_ow, dat_dp, DL.isInt, DL.isBool, DL.isStr, DL.isLst, DL.isTup, PinD, Bool.not_true, Bool.not_false, Bool.false_eq_true, if_true, if_false, true_and, and_true, OkAD, bodyEnds, pInt1, pInt2, fAbs, fMin, fMax, pIntOf, fIntOf, pLen, fLen, pSeq, fSeq, reduceIte, decide_eq_true_eq, ite_true, ite_false, Bool.and_eq_true, Bool.not_eq_true', roEq_int, Bool.true_xor, Bool.false_xor])
theorem WFok {f : List D → Option (Except Er D)} {ds : List D} {Q : Sl → Prop} {E : Er → Prop} (h : WF f ds Q E) (hn : ∀ e, f ds ≠ some (.error e)) : ∃ d, f ds = some (.ok d) ∧ Q (.sh d) := by
  rcases WF_get h with h | ⟨e, h, _⟩
  · exact h
  · exact (hn e h).elim
theorem sat_law_is_integer : ∀ ds Q E', W_law_is_integer ds Q E' → p_law_is_integer (bodyEnds Q) (entry 1 ds) (fun e _ => E' e) := by
  intro ds Q E' h
  unfold p_law_is_integer
  unfold W_law_is_integer WF at h
  match ds, h with
  | [d], h =>
    cases d <;> simp only [isI, Option.map_some, Option.map_none] at h <;> first
      | exact h.elim
      | (walk_at "dl"; exact bodyR h)
theorem call_isint {d : D} {b : Bool} {Q : Sl → Prop} {E : Er → Prop} (hd : isI d = some b) (h : Q (.sh (.bl b))) : W_law_is_integer [d] Q E := WF_ok (d := .bl b) (by simp only []; rw [hd]; rfl) h
theorem eq_str {neg : Bool} {x y : Str} {Q : Sl → Prop} (h1 : PyData.canLay0 (.str x) = true) (h2 : PyData.canLay0 (.str y) = true) (h : Q (.sh (.bl (xor neg (decide (x = y)))))) : roEq neg (.str x) (.str y) Q := roEq_str h1 h2 h
end C
set_option Elab.async false
set_option maxRecDepth 100000
set_option maxHeartbeats 1000000
set_option linter.unusedVariables false
namespace C
open PySem PySem.Spec PyProof.Rows L2 NdefX DL
local macro_rules | `(tactic| walk_at "dl") => `(tactic| simp only [wSeq, wIf, wNext, wBreak, wCont, wRet, wRetN, wDrop, wSet, wTest, wAndB, wOrB, wNotB, wIsi, wVar, wC, wOp, wRaise, wCall, wCons, wNil, wFun, wPar, wTup, wNeg, wUn, wIfE, wAndV, wOrV, wNotV, wUnp2, wLst, wIxO, wLenO, wSetIx, wAppend, wDic0, wFor, wItemsL, wItemsS, wRng1, wRng2, wListRev, dgName, roAdd, roI, roI0, roB, roIx, roIsN, roF, roL, datas, List.map_cons, List.map_nil, entry, List.length_cons, List.length_nil, List.cons_append, List.nil_append, List.replicate, List.replicate_succ, List.replicate_zero, Nat.reduceAdd, Nat.reduceSub, Nat.zero_add,
  List.getElem?_cons_zero, List.getElem?_cons_succ, List.set_cons_zero, List.set_cons_succ, dat_sh, dat_ow, dat_dp, DL.isInt, DL.isBool, DL.isStr, DL.isLst, DL.isTup, PinD, Bool.not_true, Bool.not_false, Bool.false_eq_true, if_true, if_false, true_and, and_true, OkAD, bodyEnds, pInt1, pInt2, fAbs, fMin, fMax, pIntOf, fIntOf, pLen, fLen, pSeq, fSeq, reduceIte, decide_eq_true_eq, ite_true, ite_false, Bool.and_eq_true, Bool.not_eq_true', roEq_int, Bool.true_xor, Bool.false_xor])
theorem sat_law_first_fault : ∀ ds Q E', W_law_first_fault ds Q E' → p_law_first_fault (bodyEnds Q) (entry 2 ds) (fun e _ => E' e) := by
  intro ds Q E' h
  obtain ⟨d, e, hq⟩ := WFok h (fun e z => by
    split at z
    · rw [Option.map_eq_some_iff] at z; obtain ⟨_, _, z⟩ := z; cases z
    · cases z)
  split at e
  · rename_i l
    rw [Option.map_eq_some_iff] at e
    obtain ⟨o, hf, e2⟩ := e
    cases e2
    unfold p_law_first_fault
    walk_at "dl"
    refine forD_ind (fun ds ρ => firstF ds = some d ∧ ∃ x, ρ = [.sh (.lst l), x]) ?_ ?_ _ _ ⟨hf, _, rfl⟩
    · rintro ρ ⟨h1, x, rfl⟩
      cases h1
      try walk_at "dl"
      exact bodyR hq
    · rintro d ds ρ ⟨h1, x, rfl⟩ K hK
      unfold firstF at h1
      split at h1
      · cases ‹d :: ds = []›
      · rename_i n f r e
        cases e
        split at h1
        · rename_i hc
          try walk_at "dl"
          simp only [at0, at1]
          refine eq_str hc (by decide +kernel) ?_
          split at h1
          · rename_i hz
            subst hz
            try walk_at "dl"
            exact hK _ ⟨h1, _, rfl⟩
          · rename_i hz
            try walk_at "dl"
            simp only [hz, decide_false, if_true]
            cases h1
            exact bodyR hq
        · cases h1
      · cases h1
  · cases e
theorem cpow {i j : Int} (h : 0 ≤ j ∧ j ≤ 1000000 ∧ i.natAbs < 2 ^ 64 := by decide) : CPow i j := h
end C
set_option Elab.async false
set_option maxRecDepth 100000
set_option maxHeartbeats 1000000
set_option linter.unusedVariables false
namespace C
open PySem PySem.Spec PyProof.Rows L2 NdefX DL
local macro_rules | `(tactic| walk_at "dl") => `(tactic| simp only [wSeq, wIf, wNext, wBreak, wCont, wRet, wRetN, wDrop, wSet, wTest, wAndB, wOrB, wNotB, wIsi, wVar, wC, wOp, wRaise, wCall, wCons, wNil, wFun, wPar, wTup, wNeg, wUn, wIfE, wAndV, wOrV, wNotV, wUnp2, wLst, wIxO, wLenO, wSetIx, wAppend, wDic0, wFor, wItemsL, wItemsS, wRng1, wRng2, wListRev, dgName, roAdd, roI, roI0, roB, roIx, roIsN, roF, roL, datas, List.map_cons, List.map_nil, entry, List.length_cons, List.length_nil, List.cons_append, List.nil_append, List.replicate, List.replicate_succ, List.replicate_zero, Nat.reduceAdd, Nat.reduceSub, Nat.zero_add,
  List.getElem?_cons_zero, List.getElem?_cons_succ, List.set_cons_zero, List.set_cons_succ, dat_sh, dat_ow, dat_dp, DL.isInt, DL.isBool, DL.isStr, DL.isLst, DL.isTup, PinD, Bool.not_true, Bool.not_false, Bool.false_eq_true, if_true, if_false, true_and, and_true, OkAD, bodyEnds, pInt1, pInt2, fAbs, fMin, fMax, pIntOf, fIntOf, pLen, fLen, pSeq, fSeq, reduceIte, decide_eq_true_eq, ite_true, ite_false, Bool.and_eq_true, Bool.not_eq_true', roEq_int, Bool.true_xor, Bool.false_xor])
/-! ### what was caught -/
theorem wSeq_i {t u : DS} {D0 : DEn} {ρ : DEnv} {E : EC} (h : t { D0 with nx := fun ρ' => u D0 ρ' E } ρ E) : wSeq t u D0 ρ E := h
/-- one statement, what follows out of sight -/
theorem wSeq_k {t u : DS} {D0 : DEn} {ρ : DEnv} {E : EC} (h : ∀ N : DEnv → Prop, (∀ ρ', u D0 ρ' E → N ρ') → t { D0 with nx := N } ρ E) : wSeq t u D0 ρ E := h _ fun _ k => k
/-! ### euclid, bounded -/
/-- the pair after k turns -/
def Eu (y0 : Nat) (k x y : Nat) : Prop := (∃ m, k = 2 * m ∧ y * 2 ^ m ≤ y0) ∨ ∃ m, k = 2 * m + 1 ∧ x * 2 ^ m ≤ y0 ∧ y < x
theorem Eu.step {y0 k x y : Nat} (h : Eu y0 k x y) (hy : 0 < y) : Eu y0 (k + 1) y (x % y) := by
  rcases h with ⟨m, rfl, h⟩ | ⟨m, rfl, h, hl⟩
  · exact .inr ⟨m, rfl, h, Nat.mod_lt _ hy⟩
  · refine .inl ⟨m + 1, by omega, Nat.le_trans ?_ h⟩
    have h1 : x % y < y := Nat.mod_lt _ hy
    have h2 : y * (x / y) + x % y = x := Nat.div_add_mod x y
    have h3 : 1 ≤ x / y := (Nat.one_le_div_iff hy).mpr (by omega)
    have h4 : y * 1 ≤ y * (x / y) := Nat.mul_le_mul (Nat.le_refl _) h3
    have h5 : x % y * 2 ≤ x := by omega
    rw [Nat.pow_succ, Nat.mul_comm (2 ^ m) 2, ← Nat.mul_assoc]
    exact Nat.mul_le_mul h5 (Nat.le_refl _)
theorem Eu.last {y0 B x y : Nat} (hB : y0 < 2 ^ B) (h : Eu y0 (2 * B + 3) x y) : False := by
  rcases h with ⟨m, e, h⟩ | ⟨m, e, h, hl⟩
  · omega
  · have : m = B + 1 := by omega
    subst this
    have : 1 * 2 ^ (B + 1) ≤ x * 2 ^ (B + 1) := Nat.mul_le_mul (by omega) (Nat.le_refl _)
    have e2 : 2 ^ (B + 1) = 2 ^ B + 2 ^ B := by rw [Nat.pow_succ]; omega
    omega
end C
set_option Elab.async false
set_option maxRecDepth 100000
set_option maxHeartbeats 1000000
set_option linter.unusedVariables false
namespace C
open PySem PySem.Spec PyProof.Rows L2 NdefX DL
local macro_rules | `(tactic| walk_at "dl") => `(tactic| simp only [wSeq, wIf, wNext, wBreak, wCont, wRet, wRetN, wDrop, wSet, wTest, wAndB, wOrB, wNotB, wIsi, wVar, wC, wOp, wRaise, wCall, wCons, wNil, wFun, wPar, wTup, wNeg, wUn, wIfE, wAndV, wOrV, wNotV, wUnp2, wLst, wIxO, wLenO, wSetIx, wAppend, wDic0, wFor, wItemsL, wItemsS, wRng1, wRng2, wListRev, dgName, roAdd, roI, roI0, roB, roIx, roIsN, roF, roL, datas, List.map_cons, List.map_nil, entry, List.length_cons, List.length_nil, List.cons_append, List.nil_append, List.replicate, List.replicate_succ, List.replicate_zero, Nat.reduceAdd, Nat.reduceSub, Nat.zero_add,
  List.getElem?_cons_zero, List.getElem?_cons_succ, List.set_cons_zero, List.set_cons_succ, dat_sh, dat_ow, dat_dp, DL.isInt, DL.isBool, DL.isStr, DL.isLst, DL.isTup, PinD, Bool.not_true, Bool.not_false, Bool.false_eq_true, if_true, if_false, true_and, and_true, OkAD, bodyEnds, pInt1, pInt2, fAbs, fMin, fMax, pIntOf, fIntOf, pLen, fLen, pSeq, fSeq, reduceIte, decide_eq_true_eq, ite_true, ite_false, Bool.and_eq_true, Bool.not_eq_true', roEq_int, Bool.true_xor, Bool.false_xor])
/-! ### the store's draw -/
theorem sto_law_take : ∀ ds Q E, W_law_take ds Q E → ∃ j, ds = [.sto, .int j] := fun ds Q E h => by obtain ⟨⟨m, e, _⟩, _⟩ := h; exact ⟨m, e⟩
theorem call_wide {c n m : Int} {Q : Sl → Prop} {E : Er → Prop} (hm : 1 ≤ m) (hB : Bd 100000 m) (h : ∀ r, 0 ≤ r → r < m → Q (.sh (.int r))) : W_law_wide [.int c, .int n, .int m] Q E :=
  ⟨⟨c, n, m, rfl, hm, hB⟩, fun z ⟨r, e, c', n', m', em, h1, h2⟩ => by cases em; rw [e]; exact h r h1 h2, fun _ z => z.elim⟩
theorem endS {s : Addr} {ns : List Int} {Q : Sl → Prop} {x : Sl} {ρ : DEnv} {i h m c : Int} (q : Q x) (e : ρ[0]? = some (.ow s (stoD ns i h m c)) := by rfl) (h1 : 0 ≤ i) (h2 : 0 ≤ h) : (bodyEndsS s ns Q).rt x ρ := ⟨bodyR q, i, h, m, c, e, h1, h2⟩
theorem atI_in {l : List Int} {i : Int} (h0 : 0 ≤ i) (h : i < l.length) : ∃ x, atI l i = some x := by
  have hn : i.toNat < l.length := by omega
  refine ⟨l[i.toNat], ?_⟩
  unfold atI ixN
  rw [if_pos (by omega), if_pos (by omega)]
  exact List.getElem?_eq_getElem hn
theorem g0 {a b c d e : D} {P : D → Prop} : (∃ z, atD [a, b, c, d, e] 0 = some z ∧ P z) = P a := propext ⟨fun ⟨z, e, h⟩ => by cases e; exact h, fun h => ⟨_, rfl, h⟩⟩
theorem s0 {P : Nat → Prop} : (∃ j, ixN 5 0 = some j ∧ P j) = P 0 := propext ⟨fun ⟨z, e, h⟩ => by cases e; exact h, fun h => ⟨_, rfl, h⟩⟩
theorem g1 {a b c d e : D} {P : D → Prop} : (∃ z, atD [a, b, c, d, e] 1 = some z ∧ P z) = P b := propext ⟨fun ⟨z, e, h⟩ => by cases e; exact h, fun h => ⟨_, rfl, h⟩⟩
theorem s1 {P : Nat → Prop} : (∃ j, ixN 5 1 = some j ∧ P j) = P 1 := propext ⟨fun ⟨z, e, h⟩ => by cases e; exact h, fun h => ⟨_, rfl, h⟩⟩
theorem g2 {a b c d e : D} {P : D → Prop} : (∃ z, atD [a, b, c, d, e] 2 = some z ∧ P z) = P c := propext ⟨fun ⟨z, e, h⟩ => by cases e; exact h, fun h => ⟨_, rfl, h⟩⟩
theorem s2 {P : Nat → Prop} : (∃ j, ixN 5 2 = some j ∧ P j) = P 2 := propext ⟨fun ⟨z, e, h⟩ => by cases e; exact h, fun h => ⟨_, rfl, h⟩⟩
theorem g3 {a b c d e : D} {P : D → Prop} : (∃ z, atD [a, b, c, d, e] 3 = some z ∧ P z) = P d := propext ⟨fun ⟨z, e, h⟩ => by cases e; exact h, fun h => ⟨_, rfl, h⟩⟩
theorem s3 {P : Nat → Prop} : (∃ j, ixN 5 3 = some j ∧ P j) = P 3 := propext ⟨fun ⟨z, e, h⟩ => by cases e; exact h, fun h => ⟨_, rfl, h⟩⟩
theorem g4 {a b c d e : D} {P : D → Prop} : (∃ z, atD [a, b, c, d, e] 4 = some z ∧ P z) = P e := propext ⟨fun ⟨z, e, h⟩ => by cases e; exact h, fun h => ⟨_, rfl, h⟩⟩
theorem s4 {P : Nat → Prop} : (∃ j, ixN 5 4 = some j ∧ P j) = P 4 := propext ⟨fun ⟨z, e, h⟩ => by cases e; exact h, fun h => ⟨_, rfl, h⟩⟩
theorem sat_law_take : ∀ (j : Int) Q E' so ns i h m c, W_law_take [.sto, .int j] Q E' → 0 ≤ i → 0 ≤ h → p_law_take (bodyEndsS so ns Q) (.ow so (stoD ns i h m c) :: .sh (.int j) :: List.replicate 2 .un) noE := by
  intro j Q E' so ns i hv m c ⟨⟨j', e, hB⟩, h, _⟩ hi hh
  cases e
  have hq : ∀ r, 0 ≤ r → (r < j ∨ r = 0) → Q (.sh (.int r)) := fun r h1 h2 => h _ ⟨r, rfl, j, rfl, h1, h2⟩
  unfold p_law_take stoD
  refine wSeq_k fun N1 hN1 => ?_
  walk_at "dl"
  by_cases h2 : j < 2
  · rw [if_pos h2]; exact endS (hq 0 (by decide) (.inr rfl)) rfl hi hh
  rw [if_neg h2]
  refine hN1 _ ?_
  refine wSeq_k fun N2 hN2 => ?_
  walk_at "dl"
  simp only [g4, s4, List.set_cons_succ, List.set_cons_zero]
  refine hN2 _ ?_
  refine wSeq_k fun N3 hN3 => ?_
  have rest : ∀ i hv c x2, 0 ≤ i → 0 ≤ hv → N3 [.ow so [.scr ns, .int i, .int hv, .int m, .int c], .sh (.int j), x2, .un] := fun i hv c x2 hi hh => by
    refine hN3 _ ?_
    refine wSeq_k fun N4 hN4 => ?_
    walk_at "dl"
    simp only [g2, g3, g4]
    by_cases hp : 0 < hv
    · rw [if_pos hp]
      refine ⟨trivial, cnz (by omega), trivial, ⟨by omega, (bd_log (by decide) (bd_mono hB (by decide)))⟩, ?_⟩
      simp only [s2, List.set_cons_succ, List.set_cons_zero]
      have f1 := fm (i := hv) (m := j) (by omega)
      refine endS (hq _ f1.1 (.inl f1.2)) rfl hi ?_
      rw [Int.fdiv_eq_ediv_of_nonneg _ (by omega)]
      exact Int.ediv_nonneg hh (by omega)
    · rw [if_neg hp]
      refine hN4 _ ?_
      walk_at "dl"
      simp only [g3, g4]
      exact call_wide (by omega) (bd_mono hB (by decide)) fun r r0 r1 => endS (hq r r0 (.inl r1)) rfl hi hh
  walk_at "dl"
  simp only [g0, g1, g2, List.set_cons_succ, List.set_cons_zero]
  by_cases hz : hv = 0
  · by_cases hl : i < (ns.length : Int)
    · simp only [hz, hl]
      try walk_at "dl"
      simp only [s1, s2, g4, List.set_cons_succ, List.set_cons_zero, List.length_cons, List.length_nil, Nat.reduceAdd, Nat.zero_add]
      obtain ⟨x, hx⟩ := atI_in hi hl
      refine ⟨x, hx, cpow, ?_⟩
      by_cases h18 : x < 10 ^ Int.toNat 18
      · rw [if_pos h18]
        exact call_wide (by omega) (bd_mono hB (by decide)) fun r r0 r1 => endS (hq r r0 (.inl r1)) rfl (by omega) (by decide)
      · rw [if_neg h18]
        have : (10 : Int) ^ Int.toNat 18 = 1000000000000000000 := by decide +kernel
        exact rest _ _ _ _ (by omega) (by omega)
    · simp only [hz, hl]
      try walk_at "dl"
      exact rest _ _ _ _ hi (by decide)
  · rw [roEq_int, decide_eq_false hz]
    try walk_at "dl"
    exact rest _ _ _ _ hi hh
/-! ### two equal things -/
theorem at_same {l : List D} {k : Nat} (h : k < l.length) : ∃ x, x ∈ l ∧ atD l k = some x := atD_in (by omega) (by omega)
theorem sat_law_store : ∀ ds Q E', W_law_store ds Q E' → p_law_store (bodyEnds Q) (entry 3 ds) (fun e _ => E' e) := by
  rintro ds Q E' ⟨⟨ns, rfl⟩, h, _⟩
  unfold p_law_store
  walk_at "dl"
  refine forD_ind (fun ds ρ => ∃ l m t, ds = l.map D.int ∧ ρ = [.sh (.scr ns), .sh (.int m), t]) ?_ ?_ _ _ ⟨ns, _, _, rfl, rfl⟩
  · rintro ρ ⟨l, m, t, _, rfl⟩
    try walk_at "dl"
    exact fun _ p => bodyR (h _ ⟨ns, p, m, rfl, rfl⟩)
  · rintro d ds ρ ⟨l, m, t, e, rfl⟩ K hK
    cases l with
    | nil => cases e
    | cons i l =>
      cases e
      try walk_at "dl"
      exact ⟨cm_r (by decide), cnz, cnz, hK _ ⟨l, _, _, rfl, rfl⟩⟩
end C
set_option Elab.async false
set_option maxRecDepth 100000
set_option maxHeartbeats 4000000
set_option linter.unusedVariables false
/-! data-level layer, part Mi: name = [comprehension] on one line -/
namespace DL
open PySem PySem.Spec PyProof.Rows L2 NdefX
section
variable {G : Gx} {X : Cx} {elt iter c : Expr} {scope : Scope} {pos px py spos : Pos} {x y : Str} {wi : DT (List D)} {wt : DT Bool} {we : DT Sl}
theorem ds_setLc {ifs : List Expr} (j i : Nat) (hc : X.calm = true) (hN : X.N.Nodup) (hi : DI G X (.Name x px) iter wi) (mt : Mono wt) (me : Mono we) (ok : BlkOk X.N X.env.scope scope [(x, i)])
    (hg : ∀ (s : Shared) (H : Hp) (C : Addr) (cl : List (Str × Addr)) (fp : List Addr), PG (X.blk s H scope (compEnvC scope cl C X.env) fp) (.Name x px) (gName i))
    (ht : ∀ (s : Shared) (H : Hp) (C : Addr) (cl : List (Str × Addr)) (fp : List Addr), PTs (X.blk s H scope (compEnvC scope cl C X.env) fp) ifs (tDB (G.wish fun _ _ _ _ => False) wt))
    (he : ∀ (s : Shared) (H : Hp) (C : Addr) (cl : List (Str × Addr)) (fp : List Addr), PE (X.blk s H scope (compEnvC scope cl C X.env) fp) elt (tD (G.wish fun _ _ _ _ => False) we))
    (hy : X.N[j]? = some y) (hyl : X.env.scope.names.lookup y = some .local) (hsw : swapsWith (.ListComp elt [⟨.Name x px, iter, ifs, 0⟩] scope pos) (some (.Name y py)) spos.line X.env = pure true)
    (hs : ∀ x, foldedSetIterable iter X.env x = pure x) :
    DSt G X (.Assign [.Name y py] (.ListComp elt [⟨.Name x px, iter, ifs, 0⟩] scope pos) spos) (wSet j (wLc i wi wt we)) := by
  obtain ⟨ti, hti, qi⟩ := hi.pi
  have mw : Mono (wLc i wi wt we) := fun ρ Q Q' E E' hq he2 h => hi.mono (fun items ρ1 ⟨x, k1, k2, k3⟩ => ⟨x, k1, k2, lcD_mono mt me (fun acc ρ2 k p => hq _ _ (k p)) _ _ _ k3⟩) he2 h
  refine ⟨fun _ _ _ _ _ q hd h => mw (fun x _ k => hd.nx _ k) h q, ps_weak (ps_setLc hc hN hy hyl hsw hti ok hg ht he hs) fun D σ H h => ?_⟩
  obtain ⟨ρ, τ, hA, hw⟩ := h
  refine lc_data i hi.mono qi mt me ⟨ρ, τ, hA, mw (fun x ρ1 k nx l v H1 A1 => ?_) (fun _ _ k => k) hw⟩
  exact k (by rw [List.length_set]; exact l) _ H1 (A1.store j)
theorem ds_setLcA (j i : Nat) (hc : X.calm = true) (hN : X.N.Nodup) (hi : DI G X (.Name x px) iter wi) (ok : BlkOk X.N X.env.scope scope [(x, i)])
    (hg : ∀ (s : Shared) (H : Hp) (C : Addr) (cl : List (Str × Addr)) (fp : List Addr), PG (Xb X scope s H C cl fp) (.Name x px) (gName i))
    (he : ∀ (s : Shared) (H : Hp) (C : Addr) (cl : List (Str × Addr)) (fp : List Addr), DE (Gn G) (Xb X scope s H C cl fp) elt we)
    (hy : X.N[j]? = some y := by rfl) (hyl : X.env.scope.names.lookup y = some .local := by rfl) (hsw : swapsWith (.ListComp elt [⟨.Name x px, iter, [], 0⟩] scope pos) (some (.Name y py)) spos.line X.env = pure true := by rfl)
    (hs : ∀ x, foldedSetIterable iter X.env x = pure x := by intro _; rfl) : DSt G X (.Assign [.Name y py] (.ListComp elt [⟨.Name x px, iter, [], 0⟩] scope pos) spos) (wSet j (wLc i wi wTrue we)) :=
  ds_setLc j i hc hN hi wTrue_mono (he s0 (fun _ => none) 0 [] []).mono ok hg (fun _ _ _ _ _ => pts_true) (fun s H C cl fp => (he s H C cl fp).pe) hy hyl hsw hs
end
end DL
set_option Elab.async false
set_option maxRecDepth 100000
set_option maxHeartbeats 1000000
set_option linter.unusedVariables false
namespace C
open PySem PySem.Spec PyProof.Rows L2 NdefX DL
local macro_rules | `(tactic| walk_at "dl") => `(tactic| simp only [wSeq, wLc, wTrue, wRaise0, wRaiseL, wSplit, wJoin, wFs, wSlS1, wSlS2, wAug, wItemsC, wEnum, pStr, fStr, pIntS, fIntS, roInS, orF, NoExc, dgTwo, wItemsT, wSlS0, wIsdig, roMulS, roInL, wIndexS, wSum, pSum, fSum, wFld, wGet, wMeth, wOwn2, wOwnI, wOwn1, wOwnLen, wOwnStr, wRevT, wZip, wItemsLT, wTupD, wLstD, wMv, isOwn, insOf, iStm, iFld, iEnd, pSumT, fSumT, wNever, tb, eq_self, exists_eq_left', Option.some.injEq,  wIf, wNext, wBreak, wCont, wRet, wRetN, wDrop, wSet, wTest, wAndB, wOrB, wNotB, wIsi, wVar, wC, wOp, wRaise, wCall, wCons, wNil, wFun, wPar, wTup, wNeg, wUn, wIfE, wAndV, wOrV, wNotV, wUnp2, wLst, wIxO, wLenO, wSetIx, wAppend, wDic0, wFor, wItemsL, wItemsS, wRng1, wRng2, wListRev, dgName, roAdd, roI, roI0, roB, roIx, roIsN, roF, roL, datas, List.map_cons, List.map_nil, entry, List.length_cons, List.length_nil, List.cons_append, List.nil_append, List.replicate, List.replicate_succ, List.replicate_zero, Nat.reduceAdd, Nat.reduceSub, Nat.zero_add,
  List.getElem?_cons_zero, List.getElem?_cons_succ, List.set_cons_zero, List.set_cons_succ, dat_sh, dat_ow, dat_dp, DL.isInt, DL.isBool, DL.isStr, DL.isLst, DL.isTup, PinD, Bool.not_true, Bool.not_false, Bool.false_eq_true, if_true, if_false, true_and, and_true, OkAD, bodyEnds, pInt1, pInt2, fAbs, fMin, fMax, pIntOf, fIntOf, pLen, fLen, pSeq, fSeq, reduceIte, decide_eq_true_eq, ite_true, ite_false, Bool.and_eq_true, Bool.not_eq_true', roEq_int, Bool.true_xor, Bool.false_xor, Bool.true_eq_false])
abbrev bt (x p : Nat) : Nat := x / 2 ^ p % 2
theorem lcD_map {α : Type} {i : Nat} {wt : DT Bool} {we : DT Sl} {ρ : DEnv} {R : List D → DEnv → Prop} (item : α → D) (f : α → Bool) (g : α → D) : ∀ (l : List α) (acc : List D),
    (∀ a ∈ l, ∀ (Q : Bool → DEnv → Prop) (E : EC), Q (f a) (ρ.set i (.sh (item a))) → wt (ρ.set i (.sh (item a))) Q E) →
    (∀ a ∈ l, f a = true → ∀ (Q : Sl → DEnv → Prop) (E : EC), Q (.sh (g a)) (ρ.set i (.sh (item a))) → we (ρ.set i (.sh (item a))) Q E) →
    ρ.set i .un = ρ → acc.length + l.length ≤ 100000 → R (acc ++ (l.filter f).map g) ρ → lcD i wt we R (l.map item) acc ρ
  | [], acc, _, _, _, _, h => by rw [List.filter_nil, List.map_nil, List.append_nil] at h; exact h
  | a :: l, acc, ht, he, hu, hl, h => by
    have l2 : acc.length + (l.length + 1) ≤ 100000 := hl
    rw [List.map_cons]
    unfold lcD
    refine ht a List.mem_cons_self _ _ ?_
    cases hf : f a with
    | false =>
      rw [if_neg Bool.false_ne_true, List.set_set, hu]
      rw [List.filter_cons_of_neg (by rw [hf]; exact Bool.false_ne_true)] at h
      exact lcD_map item f g l acc (fun b hb => ht b (List.mem_cons_of_mem _ hb)) (fun b hb => he b (List.mem_cons_of_mem _ hb)) hu (by omega) h
    | true =>
      rw [if_pos rfl]
      refine he a List.mem_cons_self hf _ _ ⟨by rw [sizeLine_eq]; omega, ?_⟩
      rw [List.set_set, hu, dat_sh]
      refine lcD_map item f g l (acc ++ [g a]) (fun b hb => ht b (List.mem_cons_of_mem _ hb)) (fun b hb => he b (List.mem_cons_of_mem _ hb)) hu (by rw [List.length_append]; simp only [List.length_cons, List.length_nil]; omega) ?_
      rw [List.filter_cons_of_pos hf, List.map_cons] at h
      rw [List.append_assoc]
      exact h
theorem lcD_all {α : Type} {i : Nat} {we : DT Sl} {ρ : DEnv} {R : List D → DEnv → Prop} (item : α → D) (g : α → D) (l : List α)
    (he : ∀ a ∈ l, ∀ (Q : Sl → DEnv → Prop) (E : EC), Q (.sh (g a)) (ρ.set i (.sh (item a))) → we (ρ.set i (.sh (item a))) Q E) (hu : ρ.set i .un = ρ) (hl : l.length ≤ 100000) (h : R (l.map g) ρ) : lcD i wTrue we R (l.map item) [] ρ :=
  lcD_map item (fun _ => true) g l [] (fun _ _ _ _ q => q) (fun a ha _ => he a ha) hu (by simpa using hl) (by rw [List.nil_append, List.filter_eq_self.mpr (fun _ _ => rfl)]; exact h)
theorem rangeD_map (n : Nat) : rangeD 0 n = (List.range n).map fun (k : Nat) => D.int k := by
  unfold rangeD
  refine List.map_congr_left fun k _ => ?_
  rw [Int.zero_add]
theorem bit_d (m p : Nat) : Builtin.bitAnd ((m : Int) / 2 ^ p) 1 = ((bt m p : Nat) : Int) := by
  have h := Bits.bit_at (x := (m : Int)) p
  rw [Int.fdiv_eq_ediv_of_nonneg _ (Int.le_of_lt (Int.pow_pos (by decide)))] at h
  rw [h]
  show (m : Int) / 2 ^ p % 2 = ((m / 2 ^ p % 2 : Nat) : Int)
  rw [Int.natCast_emod, Int.natCast_ediv, Int.natCast_pow]
  rfl
theorem nD_len (l : List Nat) : (nD l).length = l.length := by unfold nD; rw [List.length_map]
theorem pow_i (w : Nat) : ((2 ^ w : Nat) : Int) = 2 ^ w := Int.natCast_pow 2 w
theorem call_between {d : D} {lo hi : Int} {z : Str} {Q : Sl → Prop} {E : Er → Prop} (hz : z.length ≤ 1000) (h1 : isI d = some false → E (Er1 "WrongKind" z)) (h2 : ∀ i, d = .int i → betw i lo hi = false → E (Er1 "OutOfRange" z)) (h3 : ∀ i, d = .int i → betw i lo hi = true → Q (.sh .non)) (h : (isI d).isSome = true) : W_check_between [d, .int lo, .int hi, .str z] Q E := by
  unfold W_check_between WF f_check_between
  simp only []
  rw [if_pos hz]
  cases d with
  | int i =>
    cases hb : betw i lo hi with
    | true => simp only [hb, if_true]; exact h3 i rfl hb
    | false => simp only [hb, Bool.false_eq_true, if_false]; exact h2 i rfl hb
  | non => exact h1 rfl
  | bl b => exact h1 rfl
  | str b => exact h1 rfl
  | lst b => exact h1 rfl
  | tup b => exact h1 rfl
  | dic a b => exact h1 rfl
  | _ => cases h
theorem between_get {d : D} {lo hi : Int} {z : Str} {Q : Sl → Prop} {E : Er → Prop} (h : WF f_check_between [d, .int lo, .int hi, .str z] Q E) : z.length ≤ 1000 ∧ (isI d).isSome = true ∧ (isI d = some false → E (Er1 "WrongKind" z)) ∧ (∀ i, d = .int i → betw i lo hi = false → E (Er1 "OutOfRange" z)) ∧ ∀ i, d = .int i → betw i lo hi = true → Q (.sh .non) := by
  unfold WF f_check_between at h
  simp only [] at h
  by_cases hz : z.length ≤ 1000
  · rw [if_pos hz] at h
    refine ⟨hz, ?_⟩
    cases d with
    | int i =>
      cases hb : betw i lo hi with
      | true =>
        simp only [hb, if_true] at h
        exact ⟨rfl, (fun z => by cases z), (fun j e b => by cases e; rw [hb] at b; cases b), (fun j e _ => h)⟩
      | false =>
        simp only [hb, Bool.false_eq_true, if_false] at h
        exact ⟨rfl, (fun z => by cases z), (fun j e b => h), (fun j e b => by cases e; rw [hb] at b; cases b)⟩
    | non => exact ⟨rfl, fun _ => h, (fun j e => by cases e), (fun j e => by cases e)⟩
    | bl b => exact ⟨rfl, fun _ => h, (fun j e => by cases e), (fun j e => by cases e)⟩
    | str b => exact ⟨rfl, fun _ => h, (fun j e => by cases e), (fun j e => by cases e)⟩
    | lst b => exact ⟨rfl, fun _ => h, (fun j e => by cases e), (fun j e => by cases e)⟩
    | tup b => exact ⟨rfl, fun _ => h, (fun j e => by cases e), (fun j e => by cases e)⟩
    | dic a b => exact ⟨rfl, fun _ => h, (fun j e => by cases e), (fun j e => by cases e)⟩
    | _ => exact h.elim
  · rw [if_neg hz] at h
    exact h.elim
abbrev tl (x : Str) : List Nat := x.cps.toList
theorem okT_T : okT "Table" = true := rfl
theorem lk_wide {a b : D} : (List.zip [("wide" : Str), "held"] [a, b]).lookup ("wide" : Str) = some a := rfl
theorem lk_held {a b : D} : (List.zip [("wide" : Str), "held"] [a, b]).lookup ("held" : Str) = some b := rfl
end C
set_option Elab.async false
set_option maxRecDepth 100000
set_option maxHeartbeats 1000000
set_option linter.unusedVariables false
namespace C
open PySem PySem.Spec PyProof.Rows L2 NdefX DL
local macro_rules | `(tactic| walk_at "dl") => `(tactic| simp only [wSeq, wLc, wTrue, wRaise0, wRaiseL, wSplit, wJoin, wFs, wSlS1, wSlS2, wAug, wItemsC, wEnum, pStr, fStr, pIntS, fIntS, roInS, orF, NoExc, dgTwo, wItemsT, wSlS0, wIsdig, roMulS, roInL, wIndexS, wSum, pSum, fSum, lk_wide, lk_held, okT_T, wFld, wGet, wMeth, wOwn2, wOwnI, wOwn1, wOwnLen, wOwnStr, wRevT, wZip, wItemsLT, wTupD, wLstD, wMv, isOwn, insOf, iStm, iFld, iEnd, pSumT, fSumT, wNever, tb, eq_self, exists_eq_left', Option.some.injEq,  wIf, wNext, wBreak, wCont, wRet, wRetN, wDrop, wSet, wTest, wAndB, wOrB, wNotB, wIsi, wVar, wC, wOp, wRaise, wCall, wCons, wNil, wFun, wPar, wTup, wNeg, wUn, wIfE, wAndV, wOrV, wNotV, wUnp2, wLst, wIxO, wLenO, wSetIx, wAppend, wDic0, wFor, wItemsL, wItemsS, wRng1, wRng2, wListRev, dgName, roAdd, roI, roI0, roB, roIx, roIsN, roF, roL, datas, List.map_cons, List.map_nil, entry, List.length_cons, List.length_nil, List.cons_append, List.nil_append, List.replicate, List.replicate_succ, List.replicate_zero, Nat.reduceAdd, Nat.reduceSub, Nat.zero_add,
  List.getElem?_cons_zero, List.getElem?_cons_succ, List.set_cons_zero, List.set_cons_succ, dat_sh, dat_ow, dat_dp, DL.isInt, DL.isBool, DL.isStr, DL.isLst, DL.isTup, PinD, Bool.not_true, Bool.not_false, Bool.false_eq_true, if_true, if_false, true_and, and_true, OkAD, bodyEnds, pInt1, pInt2, fAbs, fMin, fMax, pIntOf, fIntOf, pLen, fLen, pSeq, fSeq, reduceIte, decide_eq_true_eq, ite_true, ite_false, Bool.and_eq_true, Bool.not_eq_true', roEq_int, Bool.true_xor, Bool.false_xor, Bool.true_eq_false])
theorem intg_get {d y : D} {Q : Sl → Prop} {E : Er → Prop} (h : WF f_check_integer [d, y] Q E) : ∃ z, y = .str z ∧ z.length ≤ 1000 ∧ (isI d).isSome = true ∧ (isI d = some true → Q (.sh .non)) ∧ (isI d = some false → E (Er1 "WrongKind" z)) := by
  cases y with
  | str z =>
    have h2 : WF (fun _ => if z.length ≤ 1000 then (isI d).map fun b => if b then .ok .non else .error (Er1 "WrongKind" z) else none) [] Q E := h
    unfold WF at h2
    by_cases hz : z.length ≤ 1000
    · simp only [if_pos hz] at h2
      cases hd : isI d with
      | none => rw [hd] at h2; exact h2.elim
      | some b =>
        rw [hd] at h2
        cases b with
        | true => exact ⟨z, rfl, hz, rfl, fun _ => h2, (fun e => by cases e)⟩
        | false => exact ⟨z, rfl, hz, rfl, (fun e => by cases e), fun _ => h2⟩
    · simp only [if_neg hz] at h2
  | _ => exact (show False from h).elim
theorem sat_check_integer_tables : ∀ ds Q E', W_check_integer_tables ds Q E' → p_check_integer_tables (bodyEnds Q) (entry 2 ds) (fun e _ => E' e) := by
  intro ds Q E' h
  have hl := len_check_integer_tables ds Q E' h
  match ds, hl, h with
  | [y, d], _, h =>
    obtain ⟨z, rfl, hz, hs, h1, h2⟩ := intg_get h
    have hz2 : z.length ≤ 100000 := by omega
    unfold p_check_integer_tables
    cases d <;> (first | (cases hs; done) | skip) <;> walk_at "dl" <;> first
      | exact bodyR (h1 rfl)
      | exact ⟨hz2, h2 rfl⟩
theorem call_intT {d : D} {z : Str} {Q : Sl → Prop} {E : Er → Prop} (hz : z.length ≤ 1000) (h : (isI d).isSome = true) (h1 : isI d = some true → Q (.sh .non)) (h2 : isI d = some false → E (Er1 "WrongKind" z)) : W_check_integer_tables [.str z, d] Q E := chk_int hz h1 h2 h
theorem betw_get {d lo hi y : D} {Q : Sl → Prop} {E : Er → Prop} (h : WF f_check_between [d, lo, hi, y] Q E) : ∃ a b z, lo = .int a ∧ hi = .int b ∧ y = .str z := by
  cases y with
  | str z =>
    cases lo with
    | int a => cases hi with
      | int b => exact ⟨a, b, z, rfl, rfl, rfl⟩
      | _ => exact (show False from h).elim
    | _ => exact (show False from h).elim
  | _ => cases lo <;> first | exact (show False from h).elim | (cases hi <;> exact (show False from h).elim)
theorem sat_check_between_tables : ∀ ds Q E', W_check_between_tables ds Q E' → p_check_between_tables (bodyEnds Q) (entry 4 ds) (fun e _ => E' e) := by
  intro ds Q E' h
  have hl := len_check_between_tables ds Q E' h
  match ds, hl, h with
  | [y, d, lo, hi], _, h =>
    obtain ⟨a, b, z, rfl, rfl, rfl⟩ := betw_get h
    obtain ⟨hz, hs, h1, h2, h3⟩ := between_get (show WF f_check_between [d, .int a, .int b, .str z] Q E' from h)
    have hz2 : z.length ≤ 100000 := by omega
    unfold p_check_between_tables
    walk_at "dl"
    refine call_intT hz hs (fun e => ?_) h1
    cases d with
    | int i =>
      walk_at "dl"
      by_cases g1 : i < a
      · rw [if_pos g1]
        exact ⟨hz2, h2 i rfl (by unfold betw; simp only [Bool.and_eq_false_iff, decide_eq_false_iff_not]; omega)⟩
      · rw [if_neg g1]
        by_cases g2 : b < i
        · rw [if_pos g2]
          exact ⟨hz2, h2 i rfl (by unfold betw; simp only [Bool.and_eq_false_iff, decide_eq_false_iff_not]; omega)⟩
        · rw [if_neg g2]
          exact bodyR (h3 i rfl (by unfold betw; simp only [Bool.and_eq_true, decide_eq_true_eq]; omega))
    | _ => cases e
theorem call_betT {d : D} {lo hi : Int} {z : Str} {Q : Sl → Prop} {E : Er → Prop} (hz : z.length ≤ 1000) (h1 : isI d = some false → E (Er1 "WrongKind" z)) (h2 : ∀ i, d = .int i → betw i lo hi = false → E (Er1 "OutOfRange" z)) (h3 : ∀ i, d = .int i → betw i lo hi = true → Q (.sh .non)) (h : (isI d).isSome = true) :
    W_check_between_tables [.str z, d, .int lo, .int hi] Q E := call_between hz h1 h2 h3 h
theorem sat_check_width_tables : ∀ ds Q E', W_check_width_tables ds Q E' → p_check_width_tables (bodyEnds Q) (entry 1 ds) (fun e _ => E' e) := by
  intro ds Q E' h
  have hl := len_check_width_tables ds Q E' h
  match ds, hl, h with
  | [d], _, h =>
    obtain ⟨h0, h1, h2, h3, h4⟩ := between_get (d := d) (lo := 0) (hi := 6) (z := "width") h
    unfold p_check_width_tables
    walk_at "dl"
    exact call_betT h0 h2 h3 (fun i e b => bodyR (h4 i e b)) h1
theorem row_get {d z lo hi : D} {Q : Sl → Prop} {E : Er → Prop} (h : WF f_check_row_tables [z, d, lo, hi] Q E) : ∃ z' a b o, z = .str z' ∧ lo = .int a ∧ hi = .int b ∧ z'.length ≤ 1000 ∧ rowF d a b = some o ∧ (o = none → Q (.sh .non)) ∧ ∀ c, o = some c → E (Er1 c z') := by
  cases z with
  | str z =>
    cases lo with
    | int a =>
      cases hi with
      | int b =>
        have h2 : WF (fun _ => if z.length ≤ 1000 then (rowF d a b).map fun o => (match o with | none => .ok .non | some c => .error (Er1 c z)) else none) [] Q E := h
        unfold WF at h2
        by_cases hz : z.length ≤ 1000
        · simp only [if_pos hz] at h2
          cases hd : rowF d a b with
          | none => rw [hd] at h2; exact h2.elim
          | some o =>
            rw [hd] at h2
            refine ⟨z, a, b, o, rfl, rfl, rfl, hz, hd, fun e => ?_, fun c e => ?_⟩ <;> (subst e; exact h2)
        · simp only [if_neg hz] at h2
      | _ => exact (show False from h).elim
    | _ => exact (show False from h).elim
  | _ => exact (show False from h).elim
theorem rowF_cases {d : D} {a b : Int} {o : Option Str} (h : rowF d a b = some o) : (∃ l, (d = .lst l ∨ d = .tup l) ∧ (((l.length : Int) < a ∨ b < l.length) ∧ o = some ("WrongSize" : Str) ∨ (¬ ((l.length : Int) < a ∨ b < l.length) ∧ o = none))) ∨ (isI d = some false ∧ (∀ l, d ≠ .lst l ∧ d ≠ .tup l) ∧ o = some ("WrongKind" : Str)) ∨ (∃ i, d = .int i ∧ o = some ("WrongKind" : Str)) := by
  have sz : ∀ l : List D, (some (if (l.length : Int) < a ∨ b < l.length then some ("WrongSize" : Str) else none) : Option (Option Str)) = some o → ((l.length : Int) < a ∨ b < l.length) ∧ o = some ("WrongSize" : Str) ∨ (¬ ((l.length : Int) < a ∨ b < l.length) ∧ o = none) := fun l e => by
    injection e with e
    by_cases g : (l.length : Int) < a ∨ b < l.length
    · rw [if_pos g] at e; exact .inl ⟨g, e.symm⟩
    · rw [if_neg g] at e; exact .inr ⟨g, e.symm⟩
  cases d with
  | lst l => exact .inl ⟨l, .inl rfl, sz l h⟩
  | tup l => exact .inl ⟨l, .inr rfl, sz l h⟩
  | int i => injection h with h; exact .inr (.inr ⟨i, rfl, h.symm⟩)
  | non => injection h with h; exact .inr (.inl ⟨rfl, (fun l => ⟨(fun e => by cases e), (fun e => by cases e)⟩), h.symm⟩)
  | bl _ => injection h with h; exact .inr (.inl ⟨rfl, (fun l => ⟨(fun e => by cases e), (fun e => by cases e)⟩), h.symm⟩)
  | str _ => injection h with h; exact .inr (.inl ⟨rfl, (fun l => ⟨(fun e => by cases e), (fun e => by cases e)⟩), h.symm⟩)
  | dic _ _ => injection h with h; exact .inr (.inl ⟨rfl, (fun l => ⟨(fun e => by cases e), (fun e => by cases e)⟩), h.symm⟩)
  | _ => cases h
theorem sat_check_row_tables : ∀ ds Q E', W_check_row_tables ds Q E' → p_check_row_tables (bodyEnds Q) (entry 4 ds) (fun e _ => E' e) := by
  intro ds Q E' h
  have hl := len_check_row_tables ds Q E' h
  match ds, hl, h with
  | [z0, d, lo, hi], _, h =>
    obtain ⟨z, a, b, o, rfl, rfl, rfl, hz, hr, h1, h2⟩ := row_get h
    have hz2 : z.length ≤ 100000 := by omega
    unfold p_check_row_tables
    rcases rowF_cases hr with ⟨l, hd, hc⟩ | ⟨hd, hne, ho⟩ | ⟨i, rfl, ho⟩
    · refine wSeq_k fun N hN => ?_
      have step : N (entry 4 [.str z, d, .int a, .int b]) → wIf (wNotB (wTest (wIsi (orF isLst isTup) [] (wVar 1)))) (wSeq (wRaise "WrongKind" (wVar 0)) wNext) wNext { bodyEnds Q with nx := N } (entry 4 [.str z, d, .int a, .int b]) (fun e _ => E' e) := fun k => by
        rcases hd with rfl | rfl <;> (walk_at "dl"; exact k)
      refine step (hN _ ?_)
      have fin : (wSeq (wIf (wOrB (wTest (wLt (wLen (wCons (wVar 1) wNil)) (wVar 2))) (wTest (wGt (wLen (wCons (wVar 1) wNil)) (wVar 3)))) (wSeq (wRaise "WrongSize" (wVar 0)) wNext) wNext) wNext) (bodyEnds Q) (entry 4 [.str z, d, .int a, .int b]) (fun e _ => E' e) := by
        rcases hd with rfl | rfl <;> (
          walk_at "dl"
          by_cases g1 : (l.length : Int) < a
          · rw [if_pos g1]
            rcases hc with ⟨_, e⟩ | ⟨g, _⟩
            · exact ⟨hz2, h2 _ e⟩
            · exact (g (.inl g1)).elim
          · rw [if_neg g1]
            by_cases g2 : b < (l.length : Int)
            · rw [if_pos g2]
              rcases hc with ⟨_, e⟩ | ⟨g, _⟩
              · exact ⟨hz2, h2 _ e⟩
              · exact (g (.inr g2)).elim
            · rw [if_neg g2]
              rcases hc with ⟨g, _⟩ | ⟨_, e⟩
              · omega
              · exact bodyR (h1 e))
      exact fin
    · have e := h2 _ ho
      cases d with
      | lst l => exact ((hne l).1 rfl).elim
      | tup l => exact ((hne l).2 rfl).elim
      | non => walk_at "dl"; exact ⟨hz2, e⟩
      | bl _ => walk_at "dl"; exact ⟨hz2, e⟩
      | str _ => walk_at "dl"; exact ⟨hz2, e⟩
      | dic _ _ => walk_at "dl"; exact ⟨hz2, e⟩
      | _ => cases hd
    · walk_at "dl"; exact ⟨hz2, h2 _ ho⟩
end C
set_option Elab.async false
set_option maxRecDepth 100000
set_option maxHeartbeats 1000000
set_option linter.unusedVariables false
namespace C
open PySem PySem.Spec PyProof.Rows L2 NdefX DL
local macro_rules | `(tactic| walk_at "dl") => `(tactic| simp only [wSeq, wLc, wTrue, wRaise0, wRaiseL, wSplit, wJoin, wFs, wSlS1, wSlS2, wAug, wItemsC, wEnum, pStr, fStr, pIntS, fIntS, roInS, orF, NoExc, dgTwo, wItemsT, wSlS0, wIsdig, roMulS, roInL, wIndexS, wSum, pSum, fSum, lk_wide, lk_held, okT_T, wFld, wGet, wMeth, wOwn2, wOwnI, wOwn1, wOwnLen, wOwnStr, wRevT, wZip, wItemsLT, wTupD, wLstD, wMv, isOwn, insOf, iStm, iFld, iEnd, pSumT, fSumT, wNever, tb, eq_self, exists_eq_left', Option.some.injEq,  wIf, wNext, wBreak, wCont, wRet, wRetN, wDrop, wSet, wTest, wAndB, wOrB, wNotB, wIsi, wVar, wC, wOp, wRaise, wCall, wCons, wNil, wFun, wPar, wTup, wNeg, wUn, wIfE, wAndV, wOrV, wNotV, wUnp2, wLst, wIxO, wLenO, wSetIx, wAppend, wDic0, wFor, wItemsL, wItemsS, wRng1, wRng2, wListRev, dgName, roAdd, roI, roI0, roB, roIx, roIsN, roF, roL, datas, List.map_cons, List.map_nil, entry, List.length_cons, List.length_nil, List.cons_append, List.nil_append, List.replicate, List.replicate_succ, List.replicate_zero, Nat.reduceAdd, Nat.reduceSub, Nat.zero_add,
  List.getElem?_cons_zero, List.getElem?_cons_succ, List.set_cons_zero, List.set_cons_succ, dat_sh, dat_ow, dat_dp, DL.isInt, DL.isBool, DL.isStr, DL.isLst, DL.isTup, PinD, Bool.not_true, Bool.not_false, Bool.false_eq_true, if_true, if_false, true_and, and_true, OkAD, bodyEnds, pInt1, pInt2, fAbs, fMin, fMax, pIntOf, fIntOf, pLen, fLen, pSeq, fSeq, reduceIte, decide_eq_true_eq, ite_true, ite_false, Bool.and_eq_true, Bool.not_eq_true', roEq_int, Bool.true_xor, Bool.false_xor, Bool.true_eq_false])
theorem WF_of {f : List D → Option Kd} {ds : List D} {r : Kd} {Q : Sl → Prop} {E : Er → Prop} (h : f ds = some r) (h1 : ∀ d, r = .ok d → Q (.sh d)) (h2 : ∀ e, r = .error e → E e) : WF f ds Q E := by
  cases r with
  | ok d => exact WF_ok h (h1 d rfl)
  | error e => exact WF_err h (h2 e rfl)
def kO (z : Str) : Option Str → Kd
  | none => .ok .non
  | some c => .error (Er1 c z)
theorem row_eq {d : D} {z : Str} {a b : Int} (hz : z.length ≤ 1000) : f_check_row_tables [.str z, d, .int a, .int b] = (rowF d a b).map (kO z) := by
  unfold f_check_row_tables
  simp only []
  rw [if_pos hz]
  cases rowF d a b with
  | none => rfl
  | some o => cases o <;> rfl
theorem bs_len : ("bits" : Str).length ≤ 1000 := by decide +kernel
theorem call_cw {d : D} {Q : Sl → Prop} {E : Er → Prop} (h : WF f_check_between [d, .int 0, .int 6, .str "width"] Q E) : W_check_width_tables [d] Q E := h
theorem bits_cons {d : D} {ds : List D} {Q : Sl → Prop} {E : Er → Prop} (h : WF (fun _ => bitsF (d :: ds)) [] Q E) : WF f_check_between [d, .int 0, .int 1, .str "bits"] (fun _ => WF (fun _ => bitsF ds) [] Q E) E := by
  unfold WF at h ⊢
  simp only [bitsF] at h
  cases hc : f_check_between [d, .int 0, .int 1, .str "bits"] with
  | none => rw [hc] at h; exact h
  | some r =>
    rw [hc] at h
    cases r with
    | ok v => exact h
    | error e => exact h
theorem cb_get {d lo hi : D} {Q : Sl → Prop} {E : Er → Prop} (h : WF f_check_bits [d, lo, hi] Q E) : ∃ a b o, lo = .int a ∧ hi = .int b ∧ rowF d a b = some o ∧ (∀ c, o = some c → E (Er1 c "bits")) ∧ (o = none → WF (fun _ => bitsF (itemsD d)) [] Q E) := by
  cases lo with
  | int a =>
    cases hi with
    | int b =>
      have h2 : WF (fun _ => match f_check_row_tables [.str "bits", d, .int a, .int b] with
        | some (.ok _) => bitsF (itemsD d)
        | r => r) [] Q E := h
      have e := row_eq (d := d) (a := a) (b := b) bs_len
      unfold WF at h2
      simp only [e] at h2
      cases hr : rowF d a b with
      | none => rw [hr] at h2; exact h2.elim
      | some o =>
        rw [hr] at h2
        refine ⟨a, b, o, rfl, rfl, hr, fun c eo => ?_, fun eo => ?_⟩
        · subst eo; exact h2
        · subst eo; exact h2
    | _ => exact (show False from h).elim
  | _ => exact (show False from h).elim
theorem sat_check_bits : ∀ ds Q E', W_check_bits ds Q E' → p_check_bits (bodyEnds Q) (entry 4 ds) (fun e _ => E' e) := by
  intro ds Q E' h
  have hl := len_check_bits ds Q E' h
  match ds, hl, h with
  | [d, lo, hi], _, h =>
    obtain ⟨a, b, o, rfl, rfl, hr, h1, h2⟩ := cb_get h
    unfold p_check_bits
    refine wSeq_k fun N hN => ?_
    walk_at "dl"
    refine WF_of (r := kO "bits" o) ?_ (fun v ev => ?_) (fun e ee => ?_)
    · show f_check_row_tables [.str "bits", d, .int a, .int b] = _
      rw [row_eq bs_len, hr]; rfl
    · cases o with
      | some c => cases ev
      | none =>
        refine hN _ ?_
        refine wSeq_k fun N2 hN2 => ?_
        have hb := h2 rfl
        have fin : ∀ x, N2 [.sh d, .sh (.int a), .sh (.int b), x] → Q (.sh .non) → N2 [.sh d, .sh (.int a), .sh (.int b), x] := fun x k _ => k
        have loop : ∀ l : List D, WF (fun _ => bitsF l) [] Q E' → forD (dgName 3) (wSeq (wDrop (wCall W_check_between_tables (wCons (wC (.str "bits")) (wCons (wVar 3) (wCons (wC (.int 0)) (wCons (wC (.int 1)) wNil)))))) wNext) { bodyEnds Q with nx := N2 } (fun e _ => E' e) l [.sh d, .sh (.int a), .sh (.int b), .un] := fun l hl => by
          refine forD_ind (fun l ρ => (∃ x, ρ = [.sh d, .sh (.int a), .sh (.int b), x]) ∧ WF (fun _ => bitsF l) [] Q E') ?_ ?_ _ _ ⟨⟨_, rfl⟩, hl⟩
          · rintro ρ ⟨⟨x, rfl⟩, hq⟩
            refine hN2 _ ?_
            walk_at "dl"
            exact bodyR (show Q (.sh .non) from hq)
          · rintro d1 l ρ ⟨⟨x, rfl⟩, hq⟩ K hK
            walk_at "dl"
            exact WF_mono (fun z k => hK _ ⟨⟨_, rfl⟩, k⟩) (fun _ k => k) (bits_cons hq)
        rcases rowF_cases hr with ⟨l, hd, _⟩ | ⟨_, _, e⟩ | ⟨_, _, e⟩
        · rcases hd with rfl | rfl
          · exact loop l hb
          · exact loop l hb
        · cases e
        · cases e
    · cases o with
      | none => cases ee
      | some c => cases ee; exact h1 c rfl
theorem cb_seq {d : D} {a b : Int} {Q : Sl → Prop} {E : Er → Prop} (h : WF f_check_bits [d, .int a, .int b] Q E) : WF f_check_bits [d, .int a, .int b] (fun z => (∃ l, d = .lst l ∨ d = .tup l) ∧ Q z) E := by
  cases d with
  | lst l => exact WF_mono (fun z q => ⟨⟨l, .inl rfl⟩, q⟩) (fun _ k => k) h
  | tup l => exact WF_mono (fun z q => ⟨⟨l, .inr rfl⟩, q⟩) (fun _ k => k) h
  | non => exact h
  | bl _ => exact h
  | int _ => exact h
  | str _ => exact h
  | dic _ _ => exact h
  | _ => exact (show False from h).elim
theorem init_get {x d : D} {Q : Sl → Prop} {E : Er → Prop} (h : WF f_Table_init [x, d] Q E) : WF f_check_between [x, .int 0, .int 6, .str "width"] (fun _ => ∃ w : Int, x = .int w ∧ WF f_check_bits [d, .int (2 ^ w.toNat), .int (2 ^ w.toNat)] (fun _ => Q (.sh (.ins "Table" ["wide", "held"] [.int w, .tup (itemsD d)]))) E) E := by
  unfold WF f_Table_init at h
  unfold WF
  have e : f_check_width_tables [x] = f_check_between [x, .int 0, .int 6, .str "width"] := rfl
  simp only [e] at h
  cases hc : f_check_between [x, .int 0, .int 6, .str "width"] with
  | none => rw [hc] at h; exact h.elim
  | some r =>
    rw [hc] at h
    cases r with
    | error er => exact h
    | ok v =>
      cases x with
      | int w =>
        refine ⟨w, rfl, ?_⟩
        simp only [] at h
        cases hb : f_check_bits [d, .int (2 ^ w.toNat), .int (2 ^ w.toNat)] with
        | none => rw [hb] at h; exact h.elim
        | some r =>
          rw [hb] at h
          cases r with
          | ok v => exact h
          | error er => exact h
      | _ => exact h.elim
theorem sat_Table_init (K : PySem.W.Frag) : ∀ a ds Q E', W_Table_init ds Q E' → p_Table_init K a [] [] (entry 3 (selfD K "Table" a :: ds)) (fun fs ds => Q (.sh (.ins "Table" fs ds))) E' := by
  intro a ds Q E' h
  have hl := len_Table_init ds Q E' h
  match ds, hl, h with
  | [x, d], _, h =>
    have st : ∀ y1 y2 y3 : D, ∀ z ∈ [Sl.sh y1, .sh y2, .sh y3], StillS z := fun y1 y2 y3 z hz => by
      simp only [List.mem_cons, List.not_mem_nil, or_false] at hz
      rcases hz with rfl | rfl | rfl <;> exact .inr ⟨_, rfl⟩
    obtain ⟨h0, h1, h2, h3, h4⟩ := between_get (init_get h)
    unfold p_Table_init
    walk_at "dl"
    refine call_cw (call_between (d := x) (lo := 0) (hi := 6) (z := "width") h0 h2 h3 (fun i e b => ?_) h1)
    obtain ⟨w, ew, hq⟩ := h4 i e b
    subst e
    cases ew
    have hi : 0 ≤ i ∧ i ≤ 6 := by unfold betw at b; simp only [Bool.and_eq_true, decide_eq_true_eq] at b; exact b
    refine ⟨st _ _ _, ?_⟩
    walk_at "dl"
    have e1 : (1 : Int) * 2 ^ i.toNat = 2 ^ i.toNat := Int.one_mul _
    rw [e1]
    refine ⟨⟨by omega, by omega, by decide⟩, ⟨by omega, by omega, by decide⟩, ?_⟩
    refine WF_mono (fun z k => ?_) (fun _ k => k) (cb_seq hq)
    obtain ⟨⟨l, hd⟩, k⟩ := k
    refine ⟨st _ _ _, ?_⟩
    have fin : (roTup [d] fun z => z = .sh (.tup (itemsD d))) := by rcases hd with rfl | rfl <;> rfl
    refine ⟨st _ _ _, by simp, by decide, ?_⟩
    refine roTup_mono (fun z ez => ?_) fin
    subst ez
    exact ⟨st _ _ _, by decide +kernel, by decide, k⟩
theorem nD_bits {l : List Nat} (h : ∀ b ∈ l, b ≤ 1) : bitsF (nD l) = some (.ok .non) := by
  induction l with
  | nil => rfl
  | cons b l ih =>
    have e : f_check_between [.int (b : Nat), .int 0, .int 1, .str "bits"] = some (.ok .non) := by
      unfold f_check_between
      simp only []
      have hb := h b List.mem_cons_self
      have hb2 : betw ((b : Nat) : Int) 0 1 = true := by unfold betw; simp only [Bool.and_eq_true, decide_eq_true_eq]; omega
      rw [if_pos (by decide +kernel), hb2]; rfl
    show bitsF (.int (b : Nat) :: nD l) = _
    unfold bitsF
    rw [e]
    exact ih fun c hc => h c (List.mem_cons_of_mem _ hc)
theorem mk_ok {w : Nat} {l : List Nat} {d : D} (h : TB w l) (hd : d = .lst (nD l) ∨ d = .tup (nD l)) : f_Table_init [.int w, d] = some (.ok (tb w l)) := by
  have w6 := h.w6
  have ei : itemsD d = nD l := by rcases hd with rfl | rfl <;> rfl
  have e1 : f_check_width_tables [.int (w : Nat)] = some (.ok .non) := by
    show f_check_between [.int (w : Nat), .int 0, .int 6, .str "width"] = _
    unfold f_check_between
    simp only []
    have hb2 : betw ((w : Nat) : Int) 0 6 = true := by unfold betw; simp only [Bool.and_eq_true, decide_eq_true_eq]; omega
    rw [if_pos (by decide +kernel), hb2]; rfl
  have pw : ((2 ^ w : Nat) : Int) = 2 ^ w := pow_i w
  have lr : rowF d (2 ^ w) (2 ^ w) = some none := by
    have : ¬ (((nD l).length : Int) < 2 ^ w ∨ (2 : Int) ^ w < (nD l).length) := by rw [nD_len, h.len, pw]; omega
    rcases hd with rfl | rfl <;> (show some (if _ then _ else _) = _; rw [if_neg this])
  have e2 : f_check_bits [d, .int (2 ^ w), .int (2 ^ w)] = some (.ok .non) := by
    have e : f_check_row_tables [.str "bits", d, .int (2 ^ w), .int (2 ^ w)] = some (.ok .non) := by
      rw [row_eq bs_len, lr]; rfl
    show (match f_check_row_tables [.str "bits", d, .int (2 ^ w), .int (2 ^ w)] with
      | some (.ok _) => bitsF (itemsD d)
      | r => r) = _
    rw [e, ei]
    exact nD_bits h.bit
  unfold f_Table_init
  simp only [e1, Int.toNat_natCast, e2, ei]
  rfl
theorem call_mk {w : Nat} {l : List Nat} {Q : Sl → Prop} {E : Er → Prop} (h : TB w l) (q : Q (.sh (tb w l))) : W_Table_init [.int w, .lst (nD l)] Q E := WF_ok (mk_ok h (.inl rfl)) q
end C
set_option Elab.async false
set_option maxRecDepth 100000
set_option maxHeartbeats 1000000
set_option linter.unusedVariables false
namespace C
open PySem PySem.Spec PyProof.Rows L2 NdefX DL
local macro_rules | `(tactic| walk_at "dl") => `(tactic| simp only [wSeq, wLc, wTrue, wRaise0, wRaiseL, wSplit, wJoin, wFs, wSlS1, wSlS2, wAug, wItemsC, wEnum, pStr, fStr, pIntS, fIntS, roInS, orF, NoExc, dgTwo, wItemsT, wSlS0, wIsdig, roMulS, roInL, wIndexS, wSum, pSum, fSum, lk_wide, lk_held, okT_T, wFld, wGet, wMeth, wOwn2, wOwnI, wOwn1, wOwnLen, wOwnStr, wRevT, wZip, wItemsLT, wTupD, wLstD, wMv, isOwn, insOf, iStm, iFld, iEnd, pSumT, fSumT, wNever, tb, eq_self, exists_eq_left', Option.some.injEq,  wIf, wNext, wBreak, wCont, wRet, wRetN, wDrop, wSet, wTest, wAndB, wOrB, wNotB, wIsi, wVar, wC, wOp, wRaise, wCall, wCons, wNil, wFun, wPar, wTup, wNeg, wUn, wIfE, wAndV, wOrV, wNotV, wUnp2, wLst, wIxO, wLenO, wSetIx, wAppend, wDic0, wFor, wItemsL, wItemsS, wRng1, wRng2, wListRev, dgName, roAdd, roI, roI0, roB, roIx, roIsN, roF, roL, datas, List.map_cons, List.map_nil, entry, List.length_cons, List.length_nil, List.cons_append, List.nil_append, List.replicate, List.replicate_succ, List.replicate_zero, Nat.reduceAdd, Nat.reduceSub, Nat.zero_add,
  List.getElem?_cons_zero, List.getElem?_cons_succ, List.set_cons_zero, List.set_cons_succ, dat_sh, dat_ow, dat_dp, DL.isInt, DL.isBool, DL.isStr, DL.isLst, DL.isTup, PinD, Bool.not_true, Bool.not_false, Bool.false_eq_true, if_true, if_false, true_and, and_true, OkAD, bodyEnds, pInt1, pInt2, fAbs, fMin, fMax, pIntOf, fIntOf, pLen, fLen, pSeq, fSeq, reduceIte, decide_eq_true_eq, ite_true, ite_false, Bool.and_eq_true, Bool.not_eq_true', roEq_int, Bool.true_xor, Bool.false_xor, Bool.true_eq_false])
/-! ### rows of numbers compared -/
theorem TB.pow {w : Nat} {l : List Nat} (h : TB w l) : 2 ^ w ≤ 64 := Nat.pow_le_pow_right (n := 2) (by decide) h.w6
theorem TB.le {w : Nat} {l : List Nat} (h : TB w l) : l.length ≤ 64 := by rw [h.len]; exact h.pow
theorem TB.zip {w : Nat} {l m : List Nat} {f : Nat → Nat → Nat} (h : TB w l) (k : TB w m) (hf : ∀ a b, a ≤ 1 → b ≤ 1 → f a b ≤ 1) : TB w (List.zipWith f l m) := ⟨h.w6, by rw [List.length_zipWith, h.len, k.len, Nat.min_self], fun b hb => by
  obtain ⟨i, hi⟩ := List.getElem?_of_mem hb
  rw [List.getElem?_zipWith] at hi
  cases q1 : l[i]? with
  | none => rw [q1] at hi; cases hi
  | some a => cases q2 : m[i]? with
    | none => rw [q1, q2] at hi; cases hi
    | some c =>
      rw [q1, q2] at hi
      cases hi
      exact hf _ _ (h.bit _ (List.mem_of_getElem? q1)) (k.bit _ (List.mem_of_getElem? q2))⟩
theorem TB.xor {w : Nat} {l m : List Nat} (h : TB w l) (k : TB w m) : TB w (xorL l m) := h.zip k fun a b _ _ => by omega
theorem TB.and {w : Nat} {l m : List Nat} (h : TB w l) (k : TB w m) : TB w (andL l m) := h.zip k fun a b ha hb => Nat.mul_le_mul ha hb
end C
set_option Elab.async false
set_option maxRecDepth 100000
set_option maxHeartbeats 1000000
set_option linter.unusedVariables false
namespace C
open PySem PySem.Spec PyProof.Rows L2 NdefX DL
local macro_rules | `(tactic| walk_at "dl") => `(tactic| simp only [wSeq, wLc, wTrue, wRaise0, wRaiseL, wSplit, wJoin, wFs, wSlS1, wSlS2, wAug, wItemsC, wEnum, pStr, fStr, pIntS, fIntS, roInS, orF, NoExc, dgTwo, wItemsT, wSlS0, wIsdig, roMulS, roInL, wIndexS, wSum, pSum, fSum, lk_wide, lk_held, okT_T, wFld, wGet, wMeth, wOwn2, wOwnI, wOwn1, wOwnLen, wOwnStr, wRevT, wZip, wItemsLT, wTupD, wLstD, wMv, isOwn, insOf, iStm, iFld, iEnd, pSumT, fSumT, wNever, tb, eq_self, exists_eq_left', Option.some.injEq,  wIf, wNext, wBreak, wCont, wRet, wRetN, wDrop, wSet, wTest, wAndB, wOrB, wNotB, wIsi, wVar, wC, wOp, wRaise, wCall, wCons, wNil, wFun, wPar, wTup, wNeg, wUn, wIfE, wAndV, wOrV, wNotV, wUnp2, wLst, wIxO, wLenO, wSetIx, wAppend, wDic0, wFor, wItemsL, wItemsS, wRng1, wRng2, wListRev, dgName, roAdd, roI, roI0, roB, roIx, roIsN, roF, roL, datas, List.map_cons, List.map_nil, entry, List.length_cons, List.length_nil, List.cons_append, List.nil_append, List.replicate, List.replicate_succ, List.replicate_zero, Nat.reduceAdd, Nat.reduceSub, Nat.zero_add,
  List.getElem?_cons_zero, List.getElem?_cons_succ, List.set_cons_zero, List.set_cons_succ, dat_sh, dat_ow, dat_dp, DL.isInt, DL.isBool, DL.isStr, DL.isLst, DL.isTup, PinD, Bool.not_true, Bool.not_false, Bool.false_eq_true, if_true, if_false, true_and, and_true, OkAD, bodyEnds, pInt1, pInt2, fAbs, fMin, fMax, pIntOf, fIntOf, pLen, fLen, pSeq, fSeq, reduceIte, decide_eq_true_eq, ite_true, ite_false, Bool.and_eq_true, Bool.not_eq_true', roEq_int, Bool.true_xor, Bool.false_xor, Bool.true_eq_false])
theorem sat_Table_width : ∀ ds Q E', W_Table_width ds Q E' → p_Table_width (bodyEnds Q) (entry 1 ds) (fun e _ => E' e) := by
  rintro ds Q E' ⟨w, l, rfl, hT, hq⟩
  unfold p_Table_width
  walk_at "dl"
  exact bodyR hq
theorem sat_Table_bits : ∀ ds Q E', W_Table_bits ds Q E' → p_Table_bits (bodyEnds Q) (entry 1 ds) (fun e _ => E' e) := by
  rintro ds Q E' ⟨w, l, rfl, hT, hq⟩
  unfold p_Table_bits
  walk_at "dl"
  exact bodyR hq
theorem sat_Table_signs : ∀ ds Q E', W_Table_signs ds Q E' → p_Table_signs (bodyEnds Q) (entry 2 ds) (fun e _ => E' e) := by
  rintro ds Q E' ⟨w, l, rfl, hT, hq⟩
  unfold p_Table_signs
  walk_at "dl"
  refine ⟨.inl rfl, ?_⟩
  refine lcD_all (fun (n : Nat) => D.int n) (fun (n : Nat) => D.int (1 - 2 * (n : Int))) l (fun n hn Q0 E0 q => ?_) rfl (by have := hT.le; omega) fun p => ?_
  · walk_at "dl"
    have := hT.bit n hn
    exact ⟨.inl (.inl ⟨by omega, by omega⟩), q⟩
  · exact bodyR (hq p)
end C
set_option Elab.async false
set_option maxRecDepth 100000
set_option maxHeartbeats 1000000
set_option linter.unusedVariables false
namespace C
open PySem PySem.Spec PyProof.Rows L2 NdefX DL
local macro_rules | `(tactic| walk_at "dl") => `(tactic| simp only [wSeq, wLc, wTrue, wRaise0, wRaiseL, wSplit, wJoin, wFs, wSlS1, wSlS2, wAug, wItemsC, wEnum, pStr, fStr, pIntS, fIntS, roInS, orF, NoExc, dgTwo, wItemsT, wSlS0, wIsdig, roMulS, roInL, wIndexS, wSum, pSum, fSum, lk_wide, lk_held, okT_T, wFld, wGet, wMeth, wOwn2, wOwnI, wOwn1, wOwnLen, wOwnStr, wRevT, wZip, wItemsLT, wTupD, wLstD, wMv, isOwn, insOf, iStm, iFld, iEnd, pSumT, fSumT, wNever, tb, eq_self, exists_eq_left', Option.some.injEq,  wIf, wNext, wBreak, wCont, wRet, wRetN, wDrop, wSet, wTest, wAndB, wOrB, wNotB, wIsi, wVar, wC, wOp, wRaise, wCall, wCons, wNil, wFun, wPar, wTup, wNeg, wUn, wIfE, wAndV, wOrV, wNotV, wUnp2, wLst, wIxO, wLenO, wSetIx, wAppend, wDic0, wFor, wItemsL, wItemsS, wRng1, wRng2, wListRev, dgName, roAdd, roI, roI0, roB, roIx, roIsN, roF, roL, datas, List.map_cons, List.map_nil, entry, List.length_cons, List.length_nil, List.cons_append, List.nil_append, List.replicate, List.replicate_succ, List.replicate_zero, Nat.reduceAdd, Nat.reduceSub, Nat.zero_add,
  List.getElem?_cons_zero, List.getElem?_cons_succ, List.set_cons_zero, List.set_cons_succ, dat_sh, dat_ow, dat_dp, DL.isInt, DL.isBool, DL.isStr, DL.isLst, DL.isTup, PinD, Bool.not_true, Bool.not_false, Bool.false_eq_true, if_true, if_false, true_and, and_true, OkAD, bodyEnds, pInt1, pInt2, fAbs, fMin, fMax, pIntOf, fIntOf, pLen, fLen, pSeq, fSeq, reduceIte, decide_eq_true_eq, ite_true, ite_false, Bool.and_eq_true, Bool.not_eq_true', roEq_int, Bool.true_xor, Bool.false_xor, Bool.true_eq_false])
theorem rangeD_len {n : Nat} : (rangeD 0 n).length = n := by rw [rangeD_map, List.length_map, List.length_range]
theorem band_n (a b : Nat) : Builtin.bitAnd (a : Int) (b : Int) = ((a &&& b : Nat) : Int) := by
  rw [bitAnd_pp (by omega) (by omega), Int.toNat_natCast, Int.toNat_natCast]
/-! ### sizes and parities -/
def preN (m k : Nat) : Nat := ((List.range k).map (bt m)).sum
theorem preN_succ (m k : Nat) : preN m (k + 1) = preN m k + bt m k := by
  unfold preN
  rw [List.range_succ, List.map_append, List.sum_append]; simp
theorem preN_stop {m k : Nat} (h : m / 2 ^ k < 2) : ∀ n, preN m (k + 1 + n) = preN m (k + 1)
  | 0 => rfl
  | n + 1 => by
    rw [← Nat.add_assoc, preN_succ, preN_stop h n]
    have : m / 2 ^ (k + 1 + n) = 0 := by
      rw [Nat.div_eq_zero_iff]
      right
      have h2 : m < 2 ^ (k + 1) := by
        rw [Nat.pow_succ]
        have h3 := Nat.div_add_mod m (2 ^ k)
        have h4 := Nat.mod_lt m (Nat.two_pow_pos k)
        have h5 : 2 ^ k * (m / 2 ^ k) ≤ 2 ^ k * 1 := Nat.mul_le_mul_left _ (by omega)
        omega
      exact Nat.lt_of_lt_of_le h2 (Nat.pow_le_pow_right (by decide) (by omega))
    show preN m (k + 1) + m / 2 ^ (k + 1 + n) % 2 = _
    rw [this]; rfl
theorem sat_law_size : ∀ ds Q E', W_law_size ds Q E' → p_law_size (bodyEnds Q) (entry 3 ds) (fun e _ => E' e) := by
  rintro ds Q E' ⟨m, rfl, hm, hq⟩
  unfold p_law_size
  refine wSeq_k fun N1 hN1 => ?_
  walk_at "dl"
  refine hN1 _ ?_
  refine wSeq_k fun N2 hN2 => ?_
  walk_at "dl"
  refine ⟨⟨by decide, by decide⟩, ?_⟩
  have fin : ∀ x, N2 [.sh (.int m), .sh (.int (popN m)), x] := fun x => by
    refine hN2 _ ?_
    walk_at "dl"
    exact bodyR hq
  have e20 : Int.toNat 20 = 20 := rfl
  rw [e20]
  refine forD_rng (n := 20) (fun k ρ => ∃ x, ρ = [.sh (.int m), .sh (.int (preN m k)), x]) ?_ ?_ ⟨_, rfl⟩
  · rintro ρ ⟨x, rfl⟩
    exact fin x
  · rintro k ρ hk ⟨x, rfl⟩ K hK
    walk_at "dl"
    refine ⟨by omega, ?_⟩
    rw [Int.toNat_natCast, bit_d]
    refine ⟨by omega, ?_⟩
    have e : (preN m k : Int) + (bt m k : Nat) = (preN m (k + 1) : Nat) := by rw [preN_succ]; omega
    rw [e]
    by_cases h : (m : Int) / 2 ^ k < 2
    · rw [if_pos h]
      have h2 : m / 2 ^ k < 2 := by
        have e3 : ((m / 2 ^ k : Nat) : Int) = (m : Int) / 2 ^ k := by rw [Int.natCast_ediv, Int.natCast_pow]; rfl
        omega
      have e4 : preN m (k + 1) = popN m := by
        have := preN_stop h2 (20 - (k + 1))
        have e5 : k + 1 + (20 - (k + 1)) = 20 := by omega
        rw [e5] at this
        exact this.symm
      rw [e4]
      exact fin _
    · rw [if_neg h]
      exact hK _ ⟨_, rfl⟩
theorem call_size {m : Nat} {Q : Sl → Prop} {E : Er → Prop} (hm : m < 2 ^ 20) (q : Q (.sh (.int (popN m)))) : W_law_size [.int m] Q E := ⟨m, rfl, hm, q⟩
theorem sat_law_parity : ∀ ds Q E', W_law_parity ds Q E' → p_law_parity (bodyEnds Q) (entry 2 ds) (fun e _ => E' e) := by
  rintro ds Q E' ⟨a, b, rfl, ha, hq⟩
  unfold p_law_parity
  walk_at "dl"
  rw [band_n]
  refine call_size (Nat.lt_of_le_of_lt Nat.and_le_left ha) ?_
  walk_at "dl"
  refine ⟨(show (2 : Int) ≠ 0 by decide), ?_⟩
  have e : ((popN (a &&& b) : Nat) : Int).fmod 2 = ((popN (a &&& b) % 2 : Nat) : Int) := by
    rw [Int.fmod_eq_emod_of_nonneg _ (by decide), Int.natCast_emod]; rfl
  rw [e]
  exact bodyR hq
theorem call_par {a b : Nat} {Q : Sl → Prop} {E : Er → Prop} (ha : a < 2 ^ 20) (q : Q (.sh (.int (popN (a &&& b) % 2 : Nat)))) : W_law_parity [.int a, .int b] Q E := ⟨a, b, rfl, ha, q⟩
theorem sat_law_width : ∀ ds Q E', W_law_width ds Q E' → p_law_width (bodyEnds Q) (entry 4 ds) (fun e _ => E' e) := by
  rintro ds Q E' ⟨⟨lo, hi, rfl, hlh, h6⟩, h, _⟩
  have hq : ∀ w : Nat, lo ≤ w → w ≤ hi → Q (.sh (.int w)) := fun w h1 h2 => h _ ⟨lo, hi, w, rfl, rfl, h1, h2⟩
  unfold p_law_width
  refine wSeq_k fun N1 hN1 => ?_
  walk_at "dl"
  intro p
  refine call_take bd_lit fun r r0 r1 => ?_
  obtain ⟨x, hx, e⟩ := atD_in (l := [D.int 0, .int 1, .int 1, .int 2, .int 2, .int 2, .int 3, .int 3, .int 3, .int 3, .int 4, .int 4, .int 4, .int 5, .int 5, .int 6]) r0 (by simp only [List.length_cons, List.length_nil]; omega)
  have hx2 : ∃ v : Nat, x = .int v := by
    simp only [List.mem_cons, List.not_mem_nil, or_false] at hx
    rcases hx with rfl | rfl | rfl | rfl | rfl | rfl | rfl | rfl | rfl | rfl | rfl | rfl | rfl | rfl | rfl | rfl
    · exact ⟨0, rfl⟩
    · exact ⟨1, rfl⟩
    · exact ⟨1, rfl⟩
    · exact ⟨2, rfl⟩
    · exact ⟨2, rfl⟩
    · exact ⟨2, rfl⟩
    · exact ⟨3, rfl⟩
    · exact ⟨3, rfl⟩
    · exact ⟨3, rfl⟩
    · exact ⟨3, rfl⟩
    · exact ⟨4, rfl⟩
    · exact ⟨4, rfl⟩
    · exact ⟨4, rfl⟩
    · exact ⟨5, rfl⟩
    · exact ⟨5, rfl⟩
    · exact ⟨6, rfl⟩
  obtain ⟨v, rfl⟩ := hx2
  refine ⟨_, e, hN1 _ ?_⟩
  walk_at "dl"
  have em : max (lo : Int) (min (hi : Int) (v : Int)) = ((max lo (min hi v) : Nat) : Int) := by omega
  rw [em]
  exact bodyR (hq _ (by omega) (by omega))
end C
set_option Elab.async false
set_option maxRecDepth 100000
set_option maxHeartbeats 1000000
set_option linter.unusedVariables false
namespace C
open PySem PySem.Spec PyProof.Rows L2 NdefX DL
local macro_rules | `(tactic| walk_at "dl") => `(tactic| simp only [wSeq, wLc, wTrue, wRaise0, wRaiseL, wSplit, wJoin, wFs, wSlS1, wSlS2, wAug, wItemsC, wEnum, pStr, fStr, pIntS, fIntS, roInS, orF, NoExc, dgTwo, wItemsT, wSlS0, wIsdig, roMulS, roInL, wIndexS, wSum, pSum, fSum, lk_wide, lk_held, okT_T, wFld, wGet, wMeth, wOwn2, wOwnI, wOwn1, wOwnLen, wOwnStr, wRevT, wZip, wItemsLT, wTupD, wLstD, wMv, isOwn, insOf, iStm, iFld, iEnd, pSumT, fSumT, wNever, tb, eq_self, exists_eq_left', Option.some.injEq,  wIf, wNext, wBreak, wCont, wRet, wRetN, wDrop, wSet, wTest, wAndB, wOrB, wNotB, wIsi, wVar, wC, wOp, wRaise, wCall, wCons, wNil, wFun, wPar, wTup, wNeg, wUn, wIfE, wAndV, wOrV, wNotV, wUnp2, wLst, wIxO, wLenO, wSetIx, wAppend, wDic0, wFor, wItemsL, wItemsS, wRng1, wRng2, wListRev, dgName, roAdd, roI, roI0, roB, roIx, roIsN, roF, roL, datas, List.map_cons, List.map_nil, entry, List.length_cons, List.length_nil, List.cons_append, List.nil_append, List.replicate, List.replicate_succ, List.replicate_zero, Nat.reduceAdd, Nat.reduceSub, Nat.zero_add,
  List.getElem?_cons_zero, List.getElem?_cons_succ, List.set_cons_zero, List.set_cons_succ, dat_sh, dat_ow, dat_dp, DL.isInt, DL.isBool, DL.isStr, DL.isLst, DL.isTup, PinD, Bool.not_true, Bool.not_false, Bool.false_eq_true, if_true, if_false, true_and, and_true, OkAD, bodyEnds, pInt1, pInt2, fAbs, fMin, fMax, pIntOf, fIntOf, pLen, fLen, pSeq, fSeq, reduceIte, decide_eq_true_eq, ite_true, ite_false, Bool.and_eq_true, Bool.not_eq_true', roEq_int, Bool.true_xor, Bool.false_xor, Bool.true_eq_false])
theorem ix_in {n : Nat} {i : Int} (h0 : 0 ≤ i) (h1 : i < n) : ixN n i = some i.toNat := by unfold ixN; rw [if_pos h0, if_pos h1]
end C
set_option Elab.async false
set_option maxRecDepth 100000
set_option maxHeartbeats 1000000
set_option linter.unusedVariables false
namespace C
open PySem PySem.Spec PyProof.Rows L2 NdefX DL
local macro_rules | `(tactic| walk_at "dl") => `(tactic| simp only [wSeq, wLc, wTrue, wRaise0, wRaiseL, wSplit, wJoin, wFs, wSlS1, wSlS2, wAug, wItemsC, wEnum, pStr, fStr, pIntS, fIntS, roInS, orF, NoExc, dgTwo, wItemsT, wSlS0, wIsdig, roMulS, roInL, wIndexS, wSum, pSum, fSum, lk_wide, lk_held, okT_T, wFld, wGet, wMeth, wOwn2, wOwnI, wOwn1, wOwnLen, wOwnStr, wRevT, wZip, wItemsLT, wTupD, wLstD, wMv, isOwn, insOf, iStm, iFld, iEnd, pSumT, fSumT, wNever, tb, eq_self, exists_eq_left', Option.some.injEq,  wIf, wNext, wBreak, wCont, wRet, wRetN, wDrop, wSet, wTest, wAndB, wOrB, wNotB, wIsi, wVar, wC, wOp, wRaise, wCall, wCons, wNil, wFun, wPar, wTup, wNeg, wUn, wIfE, wAndV, wOrV, wNotV, wUnp2, wLst, wIxO, wLenO, wSetIx, wAppend, wDic0, wFor, wItemsL, wItemsS, wRng1, wRng2, wListRev, dgName, roAdd, roI, roI0, roB, roIx, roIsN, roF, roL, datas, List.map_cons, List.map_nil, entry, List.length_cons, List.length_nil, List.cons_append, List.nil_append, List.replicate, List.replicate_succ, List.replicate_zero, Nat.reduceAdd, Nat.reduceSub, Nat.zero_add,
  List.getElem?_cons_zero, List.getElem?_cons_succ, List.set_cons_zero, List.set_cons_succ, dat_sh, dat_ow, dat_dp, DL.isInt, DL.isBool, DL.isStr, DL.isLst, DL.isTup, PinD, Bool.not_true, Bool.not_false, Bool.false_eq_true, if_true, if_false, true_and, and_true, OkAD, bodyEnds, pInt1, pInt2, fAbs, fMin, fMax, pIntOf, fIntOf, pLen, fLen, pSeq, fSeq, reduceIte, decide_eq_true_eq, ite_true, ite_false, Bool.and_eq_true, Bool.not_eq_true', roEq_int, Bool.true_xor, Bool.false_xor, Bool.true_eq_false])
end C
set_option maxRecDepth 100000
/-! D-level programs that laws on tables share, printed by gen_defs.py -/
namespace C
open PySem PySem.Spec PyProof.Rows L2 NdefX DL
/-- _law_number_fault -/
def p_law_number_fault_iv : DS :=
  (wSeq (wIf (wOrB (wNotB (wTest (wIsi (insF okI isInt) [] (wVar 0)))) (wTest (wIsi (insF okI isBool) [] (wVar 0)))) (wSeq (wRet (wC (.str "WrongKind")))
  wNext) wNext)
  (wSeq (wIf (wOrB (wAndB (wTest (wOp (roIsN true) (wVar 1) (wC .non))) (wTest (wLt (wVar 0) (wVar 1)))) (wAndB (wTest (wOp (roIsN true) (wVar 2) (wC .non))) (wTest (wGt (wVar 0) (wVar 2))))) (wSeq (wRet (wC (.str "OutOfRange")))
  wNext) wNext)
  (wSeq (wRet (wC (.str "")))
  wNext)))
end C
set_option Elab.async false
set_option maxRecDepth 100000
set_option maxHeartbeats 1000000
set_option linter.unusedVariables false
namespace C
open PySem PySem.Spec PyProof.Rows L2 NdefX DL
local macro_rules | `(tactic| walk_at "dl") => `(tactic| simp only [wSeq, wLc, wTrue, wRaise0, wRaiseL, wSplit, wJoin, wFs, wSlS1, wSlS2, wAug, wItemsC, wEnum, pStr, fStr, pIntS, fIntS, roInS, orF, NoExc, dgTwo, wItemsT, wSlS0, wIsdig, roMulS, roInL, wIndexS, wSum, pSum, fSum, lk_wide, lk_held, okT_T, wFld, wGet, wMeth, wOwn2, wOwnI, wOwn1, wOwnLen, wOwnStr, wRevT, wZip, wItemsLT, wTupD, wLstD, wMv, isOwn, insOf, iStm, iFld, iEnd, pSumT, fSumT, wNever, tb, eq_self, exists_eq_left', Option.some.injEq, lackN,  wIf, wNext, wBreak, wCont, wRet, wRetN, wDrop, wSet, wTest, wAndB, wOrB, wNotB, wIsi, wVar, wC, wOp, wRaise, wCall, wCons, wNil, wFun, wPar, wTup, wNeg, wUn, wIfE, wAndV, wOrV, wNotV, wUnp2, wLst, wIxO, wLenO, wSetIx, wAppend, wDic0, wFor, wItemsL, wItemsS, wRng1, wRng2, wListRev, dgName, roAdd, roI, roI0, roB, roIx, roIsN, roF, roL, datas, List.map_cons, List.map_nil, entry, List.length_cons, List.length_nil, List.cons_append, List.nil_append, List.replicate, List.replicate_succ, List.replicate_zero, Nat.reduceAdd, Nat.reduceSub, Nat.zero_add,
  List.getElem?_cons_zero, List.getElem?_cons_succ, List.set_cons_zero, List.set_cons_succ, dat_sh, dat_ow, dat_dp, DL.isInt, DL.isBool, DL.isStr, DL.isLst, DL.isTup, PinD, Bool.not_true, Bool.not_false, Bool.false_eq_true, if_true, if_false, true_and, and_true, OkAD, bodyEnds, pInt1, pInt2, fAbs, fMin, fMax, pIntOf, fIntOf, pLen, fLen, pSeq, fSeq, reduceIte, decide_eq_true_eq, ite_true, ite_false, Bool.and_eq_true, Bool.not_eq_true', roEq_int, Bool.true_xor, Bool.false_xor, Bool.true_eq_false])
theorem isT_tb {w : Nat} {l : List Nat} : isT (tb w l) = some true := rfl
theorem chkT_get {d : D} {z : Str} {Q : Sl → Prop} {E : Er → Prop} (h : WF f_chkT [d, .str z] Q E) : z.length ≤ 1000 ∧ (isT d).isSome = true ∧ (isT d = some true → Q (.sh .non)) ∧ (isT d = some false → E (Er1 "WrongKind" z)) := by
  unfold WF f_chkT at h
  simp only [] at h
  by_cases hz : z.length ≤ 1000
  · rw [if_pos hz] at h
    cases hd : isT d with
    | none => rw [hd] at h; exact h.elim
    | some b =>
      rw [hd] at h
      cases b with
      | true => exact ⟨hz, rfl, fun _ => h, fun e => by cases e⟩
      | false => exact ⟨hz, rfl, (fun e => by cases e), fun _ => h⟩
  · rw [if_neg hz] at h; exact h.elim
theorem call_chkT {d : D} {z : Str} {Q : Sl → Prop} {E : Er → Prop} (hz : z.length ≤ 1000) (h : (isT d).isSome = true) (h1 : isT d = some true → Q (.sh .non)) (h2 : isT d = some false → E (Er1 "WrongKind" z)) : WF f_chkT [d, .str z] Q E := by
  unfold WF f_chkT
  simp only []
  rw [if_pos hz]
  cases hd : isT d with
  | none => rw [hd] at h; cases h
  | some b =>
    cases b with
    | true => exact h1 hd
    | false => exact h2 hd
theorem isT_pin {d : D} (h : (isT d).isSome = true) : PinD [] d := by
  cases d <;> first | trivial | cases h
theorem isT_walk {d : D} {P : Bool → Prop} (h : (isT d).isSome = true) (k : ∀ b, isT d = some b → P b) : (match isOwnX okI "Table" d with | some b => PinD [] d ∧ P b | none => False) := by
  cases hd : isT d with
  | none => rw [hd] at h; cases h
  | some b =>
    have e : isOwnX okI "Table" d = some b := hd
    rw [e]
    exact ⟨isT_pin h, k b hd⟩
theorem chkT_str {d y : D} {Q : Sl → Prop} {E : Er → Prop} (h : WF f_chkT [d, y] Q E) : ∃ z, y = .str z := by
  cases y <;> first | exact ⟨_, rfl⟩ | exact (show False from h).elim
theorem walk_chkT {d : D} {Q : Sl → Prop} {E' : Er → Prop} (h : WF f_chkT [d, .str z] Q E') : (match isOwnX okI "Table" d with | some b => PinD [] d ∧ (if b = false then z.length ≤ 100000 ∧ E' (Er1 "WrongKind" z) else ∃ y, Cv (Sl.sh D.non) y ∧ Q y) | none => False) := by
  obtain ⟨hz, hs, h1, h2⟩ := chkT_get h
  refine isT_walk hs fun b hb => ?_
  cases b with
  | false => rw [if_pos rfl]; exact ⟨by omega, h2 hb⟩
  | true => rw [if_neg (by decide)]; exact bodyR (h1 hb)
theorem tbl_len : ("table" : Str).length ≤ 1000 := by decide +kernel
theorem fltJ_cases {d lo hi : D} {z : Str} (h : fltJ d lo hi = some z) : (∃ c fs ds, d = .ins c fs ds ∧ okI c = true ∧ z = "WrongKind") ∨ ((∀ c fs ds, d ≠ .ins c fs ds) ∧ fltN d lo hi = some z) := by
  cases d with
  | ins c fs ds =>
    have h2 : (if okI c = true then some ("WrongKind" : Str) else none) = some z := h
    by_cases hc : okI c = true
    · rw [if_pos hc] at h2; cases h2; exact .inl ⟨c, fs, ds, rfl, hc, rfl⟩
    · rw [if_neg hc] at h2; cases h2
  | _ => exact .inr ⟨(fun _ _ _ e => by cases e), h⟩
theorem sat_law_number_fault_iv : ∀ ds Q E', W_law_number_fault_iv ds Q E' → p_law_number_fault_iv (bodyEnds Q) (entry 3 ds) (fun e _ => E' e) := by
  intro ds Q E' h
  obtain ⟨d, e, hq⟩ := WFok h (fun e z => by
    split at z
    · rw [Option.map_eq_some_iff] at z; obtain ⟨_, _, z⟩ := z; cases z
    · cases z)
  split at e
  · rename_i d lo hi
    rw [Option.map_eq_some_iff] at e
    obtain ⟨z, e1, e2⟩ := e
    cases e2
    unfold p_law_number_fault_iv
    rcases fltJ_cases e1 with ⟨c, fs, ds, rfl, hc, rfl⟩ | ⟨_, e1⟩
    · walk_at "dl"
      simp only [insF, hc]
      walk_at "dl"
      exact bodyR hq
    cases d with
    | int i =>
      unfold fltN at e1
      simp only [] at e1
      split at e1 <;> cases e1 <;> walk_at "dl" <;> simp only [insF] <;> walk_at "dl"
      · exact bodyR hq
      · split <;> split at hq <;> first | exact bodyR hq | omega
      · split <;> split at hq <;> first | exact bodyR hq | omega
      · rename_i a b
        by_cases h1 : i < a
        · rw [if_pos (.inl h1)] at hq; rw [if_pos h1]; exact bodyR hq
        · rw [if_neg h1]
          by_cases h2 : b < i
          · rw [if_pos (.inr h2)] at hq; rw [if_pos h2]; exact bodyR hq
          · rw [if_neg (by omega)] at hq; rw [if_neg h2]; exact bodyR hq
    | non => simp only [fltN, isI, Option.map_some, Option.some.injEq] at e1; subst e1; walk_at "dl"; simp only [insF]; walk_at "dl"; exact bodyR hq
    | bl b => simp only [fltN, isI, Option.map_some, Option.some.injEq] at e1; subst e1; walk_at "dl"; simp only [insF]; walk_at "dl"; exact bodyR hq
    | tup b => simp only [fltN, isI, Option.map_some, Option.some.injEq] at e1; subst e1; walk_at "dl"; simp only [insF]; walk_at "dl"; exact bodyR hq
    | str b => simp only [fltN, isI, Option.map_some, Option.some.injEq] at e1; subst e1; walk_at "dl"; simp only [insF]; walk_at "dl"; exact bodyR hq
    | lst b => simp only [fltN, isI, Option.map_some, Option.some.injEq] at e1; subst e1; walk_at "dl"; simp only [insF]; walk_at "dl"; exact bodyR hq
    | dic a b => simp only [fltN, isI, Option.map_some, Option.some.injEq] at e1; subst e1; walk_at "dl"; simp only [insF]; walk_at "dl"; exact bodyR hq
    | _ => simp only [fltN, isI, Option.map_none, reduceCtorEq] at e1
  · cases e
theorem call_nfJ {d lo hi : D} {z : Str} {Q : Sl → Prop} {E : Er → Prop} (hd : fltJ d lo hi = some z) (h : Q (.sh (.str z))) : W_law_number_fault_iv [d, lo, hi] Q E := WF_ok (d := .str z) (by simp only []; rw [hd]; rfl) h
end C
set_option Elab.async false
set_option maxRecDepth 100000
set_option maxHeartbeats 1000000
set_option linter.unusedVariables false
namespace C
open PySem PySem.Spec PyProof.Rows L2 NdefX DL
local macro_rules | `(tactic| walk_at "dl") => `(tactic| simp only [wSeq, wLc, wTrue, wRaise0, wRaiseL, wSplit, wJoin, wFs, wSlS1, wSlS2, wAug, wItemsC, wEnum, pStr, fStr, pIntS, fIntS, roInS, orF, NoExc, dgTwo, wItemsT, wSlS0, wIsdig, roMulS, roInL, wIndexS, wSum, pSum, fSum, lk_wide, lk_held, okT_T, wFld, wGet, wMeth, wOwn2, wOwnI, wOwn1, wOwnLen, wOwnStr, wRevT, wZip, wItemsLT, wTupD, wLstD, wMv, isOwn, insOf, iStm, iFld, iEnd, pSumT, fSumT, wNever, tb, eq_self, exists_eq_left', Option.some.injEq, lackN,  wIf, wNext, wBreak, wCont, wRet, wRetN, wDrop, wSet, wTest, wAndB, wOrB, wNotB, wIsi, wVar, wC, wOp, wRaise, wCall, wCons, wNil, wFun, wPar, wTup, wNeg, wUn, wIfE, wAndV, wOrV, wNotV, wUnp2, wLst, wIxO, wLenO, wSetIx, wAppend, wDic0, wFor, wItemsL, wItemsS, wRng1, wRng2, wListRev, dgName, roAdd, roI, roI0, roB, roIx, roIsN, roF, roL, datas, List.map_cons, List.map_nil, entry, List.length_cons, List.length_nil, List.cons_append, List.nil_append, List.replicate, List.replicate_succ, List.replicate_zero, Nat.reduceAdd, Nat.reduceSub, Nat.zero_add,
  List.getElem?_cons_zero, List.getElem?_cons_succ, List.set_cons_zero, List.set_cons_succ, dat_sh, dat_ow, dat_dp, DL.isInt, DL.isBool, DL.isStr, DL.isLst, DL.isTup, PinD, Bool.not_true, Bool.not_false, Bool.false_eq_true, if_true, if_false, true_and, and_true, OkAD, bodyEnds, pInt1, pInt2, fAbs, fMin, fMax, pIntOf, fIntOf, pLen, fLen, pSeq, fSeq, reduceIte, decide_eq_true_eq, ite_true, ite_false, Bool.and_eq_true, Bool.not_eq_true', roEq_int, Bool.true_xor, Bool.false_xor, Bool.true_eq_false])
end C
set_option Elab.async false
set_option maxRecDepth 100000
set_option maxHeartbeats 1000000
set_option linter.unusedVariables false
namespace C
open PySem PySem.Spec PyProof.Rows L2 NdefX DL
local macro_rules | `(tactic| walk_at "dl") => `(tactic| simp only [wSeq, wLc, wTrue, wRaise0, wRaiseL, wSplit, wJoin, wFs, wSlS1, wSlS2, wAug, wItemsC, wEnum, pStr, fStr, pIntS, fIntS, roInS, orF, NoExc, dgTwo, wItemsT, wSlS0, wIsdig, roMulS, roInL, wIndexS, wSum, pSum, fSum, lk_wide, lk_held, okT_T, wFld, wGet, wMeth, wOwn2, wOwnI, wOwn1, wOwnLen, wOwnStr, wRevT, wZip, wItemsLT, wTupD, wLstD, wMv, isOwn, insOf, iStm, iFld, iEnd, pSumT, fSumT, wNever, tb, eq_self, exists_eq_left', Option.some.injEq, lackN,  wIf, wNext, wBreak, wCont, wRet, wRetN, wDrop, wSet, wTest, wAndB, wOrB, wNotB, wIsi, wVar, wC, wOp, wRaise, wCall, wCons, wNil, wFun, wPar, wTup, wNeg, wUn, wIfE, wAndV, wOrV, wNotV, wUnp2, wLst, wIxO, wLenO, wSetIx, wAppend, wDic0, wFor, wItemsL, wItemsS, wRng1, wRng2, wListRev, dgName, roAdd, roI, roI0, roB, roIx, roIsN, roF, roL, datas, List.map_cons, List.map_nil, entry, List.length_cons, List.length_nil, List.cons_append, List.nil_append, List.replicate, List.replicate_succ, List.replicate_zero, Nat.reduceAdd, Nat.reduceSub, Nat.zero_add,
  List.getElem?_cons_zero, List.getElem?_cons_succ, List.set_cons_zero, List.set_cons_succ, dat_sh, dat_ow, dat_dp, DL.isInt, DL.isBool, DL.isStr, DL.isLst, DL.isTup, PinD, Bool.not_true, Bool.not_false, Bool.false_eq_true, if_true, if_false, true_and, and_true, OkAD, bodyEnds, pInt1, pInt2, fAbs, fMin, fMax, pIntOf, fIntOf, pLen, fLen, pSeq, fSeq, reduceIte, decide_eq_true_eq, ite_true, ite_false, Bool.and_eq_true, Bool.not_eq_true', roEq_int, Bool.true_xor, Bool.false_xor, Bool.true_eq_false])
/-! ### sums -/
def sumI : Nat → (Nat → Int) → Int
  | 0, _ => 0
  | n + 1, f => sumI n f + f n
theorem sumI_congr {f g : Nat → Int} : ∀ {n : Nat}, (∀ x, x < n → f x = g x) → sumI n f = sumI n g
  | 0, _ => rfl
  | n + 1, h => by
    show sumI n f + f n = sumI n g + g n
    rw [sumI_congr fun x hx => h x (Nat.lt_succ_of_lt hx), h n (Nat.lt_succ_self n)]
theorem sumI_add (f g : Nat → Int) : ∀ n, sumI n (fun x => f x + g x) = sumI n f + sumI n g
  | 0 => rfl
  | n + 1 => by
    show sumI n _ + (f n + g n) = (sumI n f + f n) + (sumI n g + g n)
    rw [sumI_add f g n]; omega
theorem sumI_sub (f g : Nat → Int) : ∀ n, sumI n (fun x => f x - g x) = sumI n f - sumI n g
  | 0 => rfl
  | n + 1 => by
    show sumI n _ + (f n - g n) = (sumI n f + f n) - (sumI n g + g n)
    rw [sumI_sub f g n]; omega
theorem sumI_mul (c : Int) (f : Nat → Int) : ∀ n, sumI n (fun x => c * f x) = c * sumI n f
  | 0 => by show (0 : Int) = c * 0; rw [Int.mul_zero]
  | n + 1 => by
    show sumI n _ + c * f n = c * (sumI n f + f n)
    rw [sumI_mul c f n, Int.mul_add]
theorem sumI_split (f : Nat → Int) (a : Nat) : ∀ b, sumI (a + b) f = sumI a f + sumI b fun x => f (a + x)
  | 0 => by show _ = _ + (0 : Int); rw [Int.add_zero]; rfl
  | b + 1 => by
    show sumI (a + b) f + f (a + b) = sumI a f + (sumI b _ + f (a + b))
    rw [sumI_split f a b]; omega
theorem sumI_le {f : Nat → Int} {c : Int} : ∀ {n : Nat}, (∀ x, x < n → f x ≤ c) → sumI n f ≤ n * c
  | 0, _ => by show (0 : Int) ≤ (0 : Nat) * c; simp
  | n + 1, h => by
    have h1 := sumI_le (f := f) (c := c) (n := n) fun x hx => h x (Nat.lt_succ_of_lt hx)
    have h2 := h n (Nat.lt_succ_self n)
    show sumI n f + f n ≤ ((n + 1 : Nat) : Int) * c
    rw [Int.natCast_add, Int.add_mul]
    omega
theorem sumI_one (c : Int) (p : Nat) : ∀ n, sumI n (fun y => if y = p then c else 0) = if p < n then c else 0
  | 0 => rfl
  | n + 1 => by
    show sumI n _ + (if n = p then c else 0) = _
    rw [sumI_one c p n]
    by_cases h : n = p
    · subst h; rw [if_pos rfl, if_neg (Nat.lt_irrefl _), if_pos (Nat.lt_succ_self _)]; omega
    · rw [if_neg h]
      by_cases h2 : p < n
      · rw [if_pos h2, if_pos (by omega)]; omega
      · rw [if_neg h2, if_neg (by omega)]; omega
theorem sumI_const (c : Int) : ∀ n : Nat, sumI n (fun _ => c) = n * c
  | 0 => by show (0 : Int) = (0 : Nat) * c; simp
  | n + 1 => by
    show sumI n _ + c = ((n + 1 : Nat) : Int) * c
    rw [sumI_const c n, Int.natCast_add, Int.add_mul]
    omega
/-! ### signs of two words -/
def chi : Nat → Nat → Nat → Int
  | 0, _, _ => 1
  | p + 1, s, y => chi p s y * (if s / 2 ^ p % 2 = 1 ∧ y / 2 ^ p % 2 = 1 then -1 else 1)
theorem chi_comm : ∀ p s y, chi p s y = chi p y s
  | 0, _, _ => rfl
  | p + 1, s, y => by
    show chi p s y * (if _ ∧ _ then -1 else 1) = chi p y s * (if _ ∧ _ then -1 else 1)
    rw [chi_comm p s y]
    by_cases h : s / 2 ^ p % 2 = 1 ∧ y / 2 ^ p % 2 = 1
    · rw [if_pos h, if_pos ⟨h.2, h.1⟩]
    · rw [if_neg h, if_neg (fun z => h ⟨z.2, z.1⟩)]
theorem chi_pm : ∀ p s y, chi p s y = 1 ∨ chi p s y = -1
  | 0, _, _ => .inl rfl
  | p + 1, s, y => by
    show chi p s y * (if _ ∧ _ then -1 else 1) = 1 ∨ chi p s y * (if _ ∧ _ then -1 else 1) = -1
    rcases chi_pm p s y with h | h <;> rw [h] <;> split <;> simp
theorem low_bit {s q j k : Nat} (h : j < q) : (s + 2 ^ q * k) / 2 ^ j % 2 = s / 2 ^ j % 2 := by
  obtain ⟨d, rfl⟩ : ∃ d, q = j + (d + 1) := ⟨q - j - 1, by omega⟩
  rw [Nat.pow_add, Nat.mul_assoc, Nat.add_mul_div_left _ _ (Nat.two_pow_pos j), Nat.pow_succ, Nat.mul_comm (2 ^ d) 2, Nat.mul_assoc, Nat.add_mul_mod_self_left]
theorem chi_low : ∀ {p q s k y : Nat}, p ≤ q → chi p (s + 2 ^ q * k) y = chi p s y
  | 0, _, _, _, _, _ => rfl
  | p + 1, q, s, k, y, h => by
    show chi p (s + 2 ^ q * k) y * (if _ ∧ _ then -1 else 1) = chi p s y * (if _ ∧ _ then -1 else 1)
    rw [chi_low (by omega), low_bit (by omega)]
theorem chi_low2 {p q s k y : Nat} (h : p ≤ q) : chi p s (y + 2 ^ q * k) = chi p s y := by
  rw [chi_comm, chi_low h, chi_comm]
theorem hi_bit {p y : Nat} (h : y < 2 ^ p) : y / 2 ^ p % 2 = 0 := by rw [Nat.div_eq_of_lt h]
theorem hi_bit1 {p y : Nat} (h : y < 2 ^ p) : (2 ^ p + y) / 2 ^ p % 2 = 1 := by
  have e : (2 ^ p + y) / 2 ^ p = 1 := by
    rw [Nat.add_comm, show y + 2 ^ p = y + 2 ^ p * 1 by omega, Nat.add_mul_div_left _ _ (Nat.two_pow_pos p), Nat.div_eq_of_lt h]
  rw [e]
/-- the sum over the words of p + 1 places -/
theorem chi_split (p s : Nat) (g : Nat → Int) : sumI (2 ^ (p + 1)) (fun y => chi (p + 1) s y * g y) = sumI (2 ^ p) (fun y => chi p s y * g y) + (if s / 2 ^ p % 2 = 1 then -1 else 1) * sumI (2 ^ p) (fun y => chi p s y * g (2 ^ p + y)) := by
  rw [Nat.pow_succ, Nat.mul_two, sumI_split, ← sumI_mul]
  congr 1
  · refine sumI_congr fun y hy => ?_
    show chi p s y * (if _ ∧ _ then -1 else 1) * g y = _
    rw [if_neg (fun z => by have := hi_bit hy; omega), Int.mul_one]
  · refine sumI_congr fun y hy => ?_
    show chi p s (2 ^ p + y) * (if _ ∧ _ then -1 else 1) * g (2 ^ p + y) = _
    have e : chi p s (2 ^ p + y) = chi p s y := by rw [Nat.add_comm, show y + 2 ^ p = y + 2 ^ p * 1 by omega, chi_low2 (Nat.le_refl p)]
    rw [e]
    by_cases h : s / 2 ^ p % 2 = 1
    · rw [if_pos ⟨h, hi_bit1 hy⟩, if_pos h, Int.mul_comm (chi p s y), Int.mul_assoc]
    · rw [if_neg (fun z => h z.1), if_neg h, Int.mul_one, Int.one_mul]
/-- unlike words: their signs agree at half of all words -/
theorem chi_orth : ∀ w s t, s % 2 ^ w ≠ t % 2 ^ w → sumI (2 ^ w) (fun y => chi w s y * chi w t y) = 0
  | 0, s, t, h => by exfalso; rw [Nat.pow_zero, Nat.mod_one, Nat.mod_one] at h; exact h rfl
  | w + 1, s, t, h => by
    rw [chi_split]
    have e1 : sumI (2 ^ w) (fun y => chi w s y * chi (w + 1) t y) = sumI (2 ^ w) (fun y => chi w s y * chi w t y) := sumI_congr fun y hy => by
      show _ * (chi w t y * (if _ ∧ _ then -1 else 1)) = _
      rw [if_neg (fun z => by have := hi_bit hy; omega), Int.mul_one]
    have e2 : sumI (2 ^ w) (fun y => chi w s y * chi (w + 1) t (2 ^ w + y)) = (if t / 2 ^ w % 2 = 1 then -1 else 1) * sumI (2 ^ w) (fun y => chi w s y * chi w t y) := by
      rw [← sumI_mul]
      refine sumI_congr fun y hy => ?_
      show _ * (chi w t (2 ^ w + y) * (if _ ∧ _ then -1 else 1)) = _
      have e : chi w t (2 ^ w + y) = chi w t y := by rw [Nat.add_comm, show y + 2 ^ w = y + 2 ^ w * 1 by omega, chi_low2 (Nat.le_refl w)]
      rw [e]
      by_cases h : t / 2 ^ w % 2 = 1
      · rw [if_pos ⟨h, hi_bit1 hy⟩, if_pos h, ← Int.mul_assoc, Int.mul_comm (chi w s y * chi w t y)]
      · rw [if_neg (fun z => h z.1), if_neg h, Int.mul_one, Int.one_mul]
    rw [e1, e2]
    by_cases hb : s / 2 ^ w % 2 = t / 2 ^ w % 2
    · have hm : s % 2 ^ w ≠ t % 2 ^ w := fun z => h (by rw [Nat.mod_pow_succ, Nat.mod_pow_succ, z, hb])
      rw [chi_orth w s t hm]; simp
    · have hs : s / 2 ^ w % 2 = 0 ∨ s / 2 ^ w % 2 = 1 := by omega
      have ht : t / 2 ^ w % 2 = 0 ∨ t / 2 ^ w % 2 = 1 := by omega
      rcases hs with hs | hs <;> rcases ht with ht | ht
      · omega
      · rw [if_neg (by omega), if_pos ht]; omega
      · rw [if_pos hs, if_neg (by omega)]; omega
      · omega
/-! ### correlations -/
theorem corr_two {w s t : Nat} {f : Nat → Int} (hs : s < 2 ^ w) (ht : t < 2 ^ w) (hn : s ≠ t) (hf : ∀ y, y < 2 ^ w → f y = 1 ∨ f y = -1) : sumI (2 ^ w) (fun y => chi w s y * f y) + sumI (2 ^ w) (fun y => chi w t y * f y) ≤ (2 ^ w : Nat) := by
  have h0 := chi_orth w s t (by rw [Nat.mod_eq_of_lt hs, Nat.mod_eq_of_lt ht]; exact hn)
  have h1 : sumI (2 ^ w) (fun y => chi w s y * f y + chi w t y * f y - chi w s y * chi w t y) ≤ (2 ^ w : Nat) * 1 := sumI_le fun y hy => by
    rcases hf y hy with h | h <;> rcases chi_pm w s y with h2 | h2 <;> rcases chi_pm w t y with h3 | h3 <;> rw [h, h2, h3] <;> decide
  rw [sumI_sub, sumI_add, h0] at h1
  omega
theorem pm_odd {f : Nat → Int} : ∀ {n : Nat}, (∀ y, y < n → f y = 1 ∨ f y = -1) → (sumI n f - n) % 2 = 0
  | 0, _ => rfl
  | n + 1, h => by
    have h1 := pm_odd (f := f) (n := n) fun y hy => h y (Nat.lt_succ_of_lt hy)
    show (sumI n f + f n - ((n + 1 : Nat) : Int)) % 2 = 0
    rcases h n (Nat.lt_succ_self n) with h2 | h2 <;> rw [h2] <;> omega
theorem corr_odd {w s : Nat} {f : Nat → Int} (hf : ∀ y, y < 2 ^ w → f y = 1 ∨ f y = -1) : (sumI (2 ^ w) (fun y => chi w s y * f y) - (2 ^ w : Nat)) % 2 = 0 := pm_odd fun y hy => by
  rcases hf y hy with h | h <;> rcases chi_pm w s y with h2 | h2 <;> rw [h, h2] <;> decide
end C
set_option maxRecDepth 100000
/-! D-level programs that laws on scores share, printed by gen_defs.py -/
namespace C
open PySem PySem.Spec PyProof.Rows L2 NdefX DL
/-- check_table_shades -/
def p_check_table_shades : DS :=
  (wSeq (wIf (wNotB (wTest (wIsi (isOwnX okI "Table") [] (wVar 0)))) (wSeq (wRaise "WrongKind" (wVar 1))
  wNext) wNext)
  wNext)
/-- width_of_length -/
def p_width_of_length : DS :=
  (wSeq (wRet (wSub (wBits (wVar 0)) (wC (.int 1))))
  wNext)
end C
set_option Elab.async false
set_option maxRecDepth 100000
set_option maxHeartbeats 1000000
set_option linter.unusedVariables false
namespace C
open PySem PySem.Spec PyProof.Rows L2 NdefX DL
local macro_rules | `(tactic| walk_at "dl") => `(tactic| simp only [wSeq, wLc, wTrue, wRaise0, wRaiseL, wSplit, wJoin, wFs, wSlS1, wSlS2, wAug, wItemsC, wEnum, pStr, fStr, pIntS, fIntS, roInS, orF, NoExc, dgTwo, wItemsT, wSlS0, wIsdig, roMulS, roInL, wIndexS, wSum, pSum, fSum, lk_wide, lk_held, okT_T, wFld, wGet, wMeth, wOwn2, wOwnI, wOwn1, wOwnLen, wOwnStr, wRevT, wZip, wItemsLT, wTupD, wLstD, wMv, isOwn, insOf, iStm, iFld, iEnd, pSumT, fSumT, wNever, tb, eq_self, exists_eq_left', Option.some.injEq, lackN, wTruth, wMinL, roMinL, wEnum, wSlTo, wSlFrom, wPopAt, wLenO,  wIf, wNext, wBreak, wCont, wRet, wRetN, wDrop, wSet, wTest, wAndB, wOrB, wNotB, wIsi, wVar, wC, wOp, wRaise, wCall, wCons, wNil, wFun, wPar, wTup, wNeg, wUn, wIfE, wAndV, wOrV, wNotV, wUnp2, wLst, wIxO, wLenO, wSetIx, wAppend, wDic0, wFor, wItemsL, wItemsS, wRng1, wRng2, wListRev, dgName, roAdd, roI, roI0, roB, roIx, roIsN, roF, roL, datas, List.map_cons, List.map_nil, entry, List.length_cons, List.length_nil, List.cons_append, List.nil_append, List.replicate, List.replicate_succ, List.replicate_zero, Nat.reduceAdd, Nat.reduceSub, Nat.zero_add,
  List.getElem?_cons_zero, List.getElem?_cons_succ, List.set_cons_zero, List.set_cons_succ, dat_sh, dat_ow, dat_dp, DL.isInt, DL.isBool, DL.isStr, DL.isLst, DL.isTup, PinD, Bool.not_true, Bool.not_false, Bool.false_eq_true, if_true, if_false, true_and, and_true, OkAD, bodyEnds, pInt1, pInt2, fAbs, fMin, fMax, pIntOf, fIntOf, pLen, fLen, pSeq, fSeq, reduceIte, decide_eq_true_eq, ite_true, ite_false, Bool.and_eq_true, Bool.not_eq_true', roEq_int, Bool.true_xor, Bool.false_xor, Bool.true_eq_false])
/-! ### the butterfly -/
theorem bfly_len (p : Nat) (r : List Int) : (bfly p r).length = r.length := by unfold bfly; rw [List.length_map, List.length_range]
theorem bflys_len (r : List Int) : ∀ p, (bflys r p).length = r.length
  | 0 => rfl
  | p + 1 => by show (bfly p (bflys r p)).length = _; rw [bfly_len, bflys_len r p]
theorem getD_range {n x : Nat} {g : Nat → Int} (h : x < n) : ((List.range n).map g).getD x 0 = g x := by
  rw [List.getD_eq_getElem?_getD, List.getElem?_map, List.getElem?_range h]; rfl
theorem bfly_get {p x : Nat} {r : List Int} (h : x < r.length) : (bfly p r).getD x 0 = if x / 2 ^ p % 2 = 1 then r.getD (x - 2 ^ p) 0 - r.getD x 0 else r.getD x 0 + r.getD (x + 2 ^ p) 0 := by
  unfold bfly; rw [getD_range h]
theorem bit_dn {s p : Nat} (h : s / 2 ^ p % 2 = 1) : 2 ^ p ≤ s ∧ (s - 2 ^ p) / 2 ^ p = s / 2 ^ p - 1 ∧ s - 2 ^ p + 2 ^ p * 1 = s := by
  have h1 : 2 ^ p ≤ s := by
    by_cases h2 : 2 ^ p ≤ s
    · exact h2
    · rw [Nat.div_eq_of_lt (by omega)] at h; cases h
  refine ⟨h1, ?_, by omega⟩
  have e := Nat.add_mul_div_left (s - 2 ^ p) 1 (Nat.two_pow_pos p)
  rw [show s - 2 ^ p + 2 ^ p * 1 = s by omega] at e
  rw [e, Nat.add_sub_cancel]
theorem bit_up {s p w : Nat} (hp : p < w) (hs : s < 2 ^ w) (h : s / 2 ^ p % 2 = 0) : s + 2 ^ p < 2 ^ w := by
  obtain ⟨d, rfl⟩ : ∃ d, w = p + (d + 1) := ⟨w - p - 1, by omega⟩
  have h0 := Nat.two_pow_pos p
  have h1 : s / 2 ^ p < 2 ^ (d + 1) := by rw [Nat.div_lt_iff_lt_mul h0, ← Nat.pow_add, Nat.add_comm]; exact hs
  have h2 : s / 2 ^ p + 1 < 2 ^ (d + 1) := by
    rw [Nat.pow_succ] at h1 ⊢
    omega
  have h3 : s < (s / 2 ^ p + 1) * 2 ^ p := by
    have := Nat.div_add_mod s (2 ^ p)
    have := Nat.mod_lt s h0
    rw [Nat.add_mul, Nat.one_mul, Nat.mul_comm]
    omega
  have h4 : (s / 2 ^ p + 1 + 1) * 2 ^ p ≤ 2 ^ (d + 1) * 2 ^ p := Nat.mul_le_mul_right _ h2
  rw [← Nat.pow_add, Nat.add_comm (d + 1)] at h4
  rw [Nat.add_mul _ 1, Nat.one_mul] at h4
  omega
/-- what the first p steps make -/
theorem bflys_get {w : Nat} {r : List Int} (hr : r.length = 2 ^ w) : ∀ {p s : Nat}, p ≤ w → s < 2 ^ w → (bflys r p).getD s 0 = sumI (2 ^ p) fun y => chi p s y * r.getD (s / 2 ^ p * 2 ^ p + y) 0
  | 0, s, _, hs => by
    show r.getD s 0 = 0 + 1 * r.getD (s / 1 * 1 + 0) 0
    rw [Nat.div_one, Nat.mul_one]; simp
  | p + 1, s, hp, hs => by
    show (bfly p (bflys r p)).getD s 0 = _
    rw [bfly_get (by rw [bflys_len, hr]; exact hs), chi_split]
    have e2 : s / 2 ^ (p + 1) = s / 2 ^ p / 2 := by rw [Nat.pow_succ, Nat.div_div_eq_div_mul]
    by_cases h : s / 2 ^ p % 2 = 1
    · obtain ⟨h1, h2, h3⟩ := bit_dn h
      rw [if_pos h, if_pos h, bflys_get hr (by omega) (by omega), bflys_get hr (by omega) hs, e2, h2]
      have a1 : s / 2 ^ p - 1 = s / 2 ^ p / 2 * 2 := by omega
      have a2 : s / 2 ^ p * 2 ^ p = s / 2 ^ p / 2 * 2 ^ (p + 1) + 2 ^ p := by
        rw [Nat.pow_succ, Nat.mul_comm (2 ^ p) 2, ← Nat.mul_assoc, ← a1]
        obtain ⟨k, hk⟩ : ∃ k, s / 2 ^ p = k + 1 := ⟨s / 2 ^ p - 1, by omega⟩
        rw [hk, Nat.add_sub_cancel, Nat.add_mul, Nat.one_mul]
      have e3 : sumI (2 ^ p) (fun y => chi p (s - 2 ^ p) y * r.getD ((s / 2 ^ p - 1) * 2 ^ p + y) 0) = sumI (2 ^ p) (fun y => chi p s y * r.getD (s / 2 ^ p / 2 * 2 ^ (p + 1) + y) 0) := sumI_congr fun y _ => by
        have c : chi p s y = chi p (s - 2 ^ p) y := by
          conv => lhs; rw [← h3]
          exact chi_low (Nat.le_refl p)
        rw [c, a1, Nat.mul_assoc, Nat.mul_comm 2, ← Nat.pow_succ]
      have e4 : sumI (2 ^ p) (fun y => chi p s y * r.getD (s / 2 ^ p * 2 ^ p + y) 0) = sumI (2 ^ p) (fun y => chi p s y * r.getD (s / 2 ^ p / 2 * 2 ^ (p + 1) + (2 ^ p + y)) 0) := sumI_congr fun y _ => by
        rw [a2, Nat.add_assoc]
      rw [e3, e4]
      omega
    · have h0 : s / 2 ^ p % 2 = 0 := by omega
      have hu := bit_up (by omega) hs h0
      have a0 : (s + 2 ^ p) / 2 ^ p = s / 2 ^ p + 1 := by
        rw [show s + 2 ^ p = s + 2 ^ p * 1 by omega, Nat.add_mul_div_left _ _ (Nat.two_pow_pos p)]
      rw [if_neg h, if_neg h, bflys_get hr (by omega) hs, bflys_get hr (by omega) hu, e2, a0]
      have a1 : s / 2 ^ p = s / 2 ^ p / 2 * 2 := by omega
      have a2 : s / 2 ^ p * 2 ^ p = s / 2 ^ p / 2 * 2 ^ (p + 1) := by
        rw [Nat.pow_succ, Nat.mul_comm (2 ^ p) 2, ← Nat.mul_assoc, ← a1]
      have e3 : sumI (2 ^ p) (fun y => chi p (s + 2 ^ p) y * r.getD ((s / 2 ^ p + 1) * 2 ^ p + y) 0) = sumI (2 ^ p) (fun y => chi p s y * r.getD (s / 2 ^ p / 2 * 2 ^ (p + 1) + (2 ^ p + y)) 0) := sumI_congr fun y _ => by
        have c : chi p (s + 2 ^ p) y = chi p s y := by
          rw [show s + 2 ^ p = s + 2 ^ p * 1 by omega]
          exact chi_low (Nat.le_refl p)
        rw [c, Nat.add_mul, Nat.one_mul, a2, Nat.add_assoc]
      rw [e3, a2]
      omega
/-! ### the scores of a table -/
def fI (l : List Nat) (y : Nat) : Int := 1 - 2 * (l.getD y 0 : Nat)
def sc (w : Nat) (l : List Nat) (s : Nat) : Int := sumI (2 ^ w) fun y => chi w s y * fI l y
theorem sgI_get {l : List Nat} {y : Nat} (h : y < l.length) : (sgI l).getD y 0 = fI l y := by
  unfold sgI fI
  rw [List.getD_eq_getElem?_getD, List.getElem?_map, List.getD_eq_getElem?_getD, List.getElem?_eq_getElem h]; rfl
theorem sgI_len (l : List Nat) : (sgI l).length = l.length := by unfold sgI; rw [List.length_map]
theorem scL_len {w : Nat} {l : List Nat} (h : TB w l) : (scL w l).length = 2 ^ w := by unfold scL; rw [bflys_len, sgI_len, h.len]
theorem scL_get {w s : Nat} {l : List Nat} (h : TB w l) (hs : s < 2 ^ w) : (scL w l).getD s 0 = sc w l s := by
  unfold scL sc
  rw [bflys_get (by rw [sgI_len, h.len]) (Nat.le_refl w) hs]
  refine sumI_congr fun y hy => ?_
  rw [Nat.div_eq_of_lt hs, Nat.zero_mul, Nat.zero_add, sgI_get (by rw [h.len]; exact hy)]
theorem scL_eq {w : Nat} {l : List Nat} (h : TB w l) : scL w l = (List.range (2 ^ w)).map (sc w l) := by
  refine List.ext_getElem? fun k => ?_
  rw [List.getElem?_map]
  by_cases hk : k < 2 ^ w
  · have h1 := scL_get h hk
    rw [List.getD_eq_getElem?_getD, List.getElem?_eq_getElem (show k < (scL w l).length by rw [scL_len h]; exact hk)] at h1
    rw [List.getElem?_eq_getElem (show k < (scL w l).length by rw [scL_len h]; exact hk), List.getElem?_range hk]
    exact congrArg some h1
  · rw [List.getElem?_eq_none (by rw [scL_len h]; omega), List.getElem?_eq_none (by rw [List.length_range]; omega)]; rfl
theorem fI_pm {w : Nat} {l : List Nat} (h : TB w l) : ∀ y, y < 2 ^ w → fI l y = 1 ∨ fI l y = -1 := fun y hy => by
  have hl : y < l.length := by rw [h.len]; exact hy
  have hb : l.getD y 0 ≤ 1 := by
    rw [List.getD_eq_getElem?_getD, List.getElem?_eq_getElem hl]
    exact h.bit _ (List.getElem_mem hl)
  unfold fI
  omega
theorem sc_two {w s t : Nat} {l : List Nat} (h : TB w l) (hs : s < 2 ^ w) (ht : t < 2 ^ w) (hn : s ≠ t) : sc w l s + sc w l t ≤ (2 ^ w : Nat) := corr_two hs ht hn (fI_pm h)
theorem sc_odd {w : Nat} {l : List Nat} (h : TB w l) (s : Nat) : (sc w l s - (2 ^ w : Nat)) % 2 = 0 := corr_odd (fI_pm h)
/-! ### parities -/
theorem and_bit (a b k : Nat) : (a &&& b) / 2 ^ k % 2 = a / 2 ^ k % 2 * (b / 2 ^ k % 2) := by
  have h := Nat.testBit_and a b k
  have t : ∀ n : Nat, n.testBit k = decide (n / 2 ^ k % 2 = 1) := fun n => Nat.testBit_eq_decide_div_mod_eq
  rw [t, t, t] at h
  have h1 : (a &&& b) / 2 ^ k % 2 < 2 := Nat.mod_lt _ (by decide)
  have h2 : a / 2 ^ k % 2 < 2 := Nat.mod_lt _ (by decide)
  have h3 : b / 2 ^ k % 2 < 2 := Nat.mod_lt _ (by decide)
  have c2 : a / 2 ^ k % 2 = 0 ∨ a / 2 ^ k % 2 = 1 := by omega
  have c3 : b / 2 ^ k % 2 = 0 ∨ b / 2 ^ k % 2 = 1 := by omega
  have c1 : (a &&& b) / 2 ^ k % 2 = 0 ∨ (a &&& b) / 2 ^ k % 2 = 1 := by omega
  rcases c1 with c1 | c1 <;> rcases c2 with c2 | c2 <;> rcases c3 with c3 | c3 <;> rw [c1, c2, c3] at h ⊢ <;> first | rfl | cases h
theorem chi_pre (m x : Nat) : ∀ k, chi k m x = 1 - 2 * ((preN (m &&& x) k % 2 : Nat) : Int)
  | 0 => rfl
  | k + 1 => by
    have e : preN (m &&& x) (k + 1) = preN (m &&& x) k + m / 2 ^ k % 2 * (x / 2 ^ k % 2) := by rw [preN_succ]; show _ + (m &&& x) / 2 ^ k % 2 = _; rw [and_bit]
    show chi k m x * (if _ ∧ _ then -1 else 1) = _
    rw [chi_pre m x k, e]
    have c2 : m / 2 ^ k % 2 = 0 ∨ m / 2 ^ k % 2 = 1 := by omega
    have c3 : x / 2 ^ k % 2 = 0 ∨ x / 2 ^ k % 2 = 1 := by omega
    rcases c2 with c2 | c2 <;> rcases c3 with c3 | c3 <;> rw [c2, c3]
    · rw [if_neg (by omega)]; omega
    · rw [if_neg (by omega)]; omega
    · rw [if_neg (by omega)]; omega
    · rw [if_pos ⟨rfl, rfl⟩]; omega
theorem preN_hi {m w : Nat} (h : m < 2 ^ w) : ∀ d, preN m (w + d) = preN m w
  | 0 => rfl
  | d + 1 => by
    rw [← Nat.add_assoc, preN_succ, preN_hi h d]
    have : m / 2 ^ (w + d) = 0 := Nat.div_eq_of_lt (Nat.lt_of_lt_of_le h (Nat.pow_le_pow_right (by decide) (by omega)))
    show preN m w + m / 2 ^ (w + d) % 2 = _
    rw [this]; rfl
theorem chi_par {w m x : Nat} (hw : w ≤ 20) (hm : m < 2 ^ w) : chi w m x = 1 - 2 * ((popN (m &&& x) % 2 : Nat) : Int) := by
  rw [chi_pre]
  have hl : m &&& x < 2 ^ w := Nat.lt_of_le_of_lt Nat.and_le_left hm
  obtain ⟨d, hd⟩ : ∃ d, 20 = w + d := ⟨20 - w, by omega⟩
  have e : popN (m &&& x) = preN (m &&& x) 20 := rfl
  rw [e, hd, preN_hi hl]
end C
set_option Elab.async false
set_option maxRecDepth 100000
set_option maxHeartbeats 1000000
set_option linter.unusedVariables false
namespace C
open PySem PySem.Spec PyProof.Rows L2 NdefX DL
local macro_rules | `(tactic| walk_at "dl") => `(tactic| simp only [wSeq, wLc, wTrue, wRaise0, wRaiseL, wSplit, wJoin, wFs, wSlS1, wSlS2, wAug, wItemsC, wEnum, pStr, fStr, pIntS, fIntS, roInS, orF, NoExc, dgTwo, wItemsT, wSlS0, wIsdig, roMulS, roInL, wIndexS, wSum, pSum, fSum, lk_wide, lk_held, okT_T, wFld, wGet, wMeth, wOwn2, wOwnI, wOwn1, wOwnLen, wOwnStr, wRevT, wZip, wItemsLT, wTupD, wLstD, wMv, isOwn, insOf, iStm, iFld, iEnd, pSumT, fSumT, wNever, tb, eq_self, exists_eq_left', Option.some.injEq, lackN, wTruth, wMinL, roMinL, wEnum, wSlTo, wSlFrom, wPopAt, wLenO,  wIf, wNext, wBreak, wCont, wRet, wRetN, wDrop, wSet, wTest, wAndB, wOrB, wNotB, wIsi, wVar, wC, wOp, wRaise, wCall, wCons, wNil, wFun, wPar, wTup, wNeg, wUn, wIfE, wAndV, wOrV, wNotV, wUnp2, wLst, wIxO, wLenO, wSetIx, wAppend, wDic0, wFor, wItemsL, wItemsS, wRng1, wRng2, wListRev, dgName, roAdd, roI, roI0, roB, roIx, roIsN, roF, roL, datas, List.map_cons, List.map_nil, entry, List.length_cons, List.length_nil, List.cons_append, List.nil_append, List.replicate, List.replicate_succ, List.replicate_zero, Nat.reduceAdd, Nat.reduceSub, Nat.zero_add,
  List.getElem?_cons_zero, List.getElem?_cons_succ, List.set_cons_zero, List.set_cons_succ, dat_sh, dat_ow, dat_dp, DL.isInt, DL.isBool, DL.isStr, DL.isLst, DL.isTup, PinD, Bool.not_true, Bool.not_false, Bool.false_eq_true, if_true, if_false, true_and, and_true, OkAD, bodyEnds, pInt1, pInt2, fAbs, fMin, fMax, pIntOf, fIntOf, pLen, fLen, pSeq, fSeq, reduceIte, decide_eq_true_eq, ite_true, ite_false, Bool.and_eq_true, Bool.not_eq_true', roEq_int, Bool.true_xor, Bool.false_xor, Bool.true_eq_false])
/-! ### squares of scores are the sums over pairs -/
theorem sumI_swap (F : Nat → Nat → Int) (m : Nat) : ∀ n, sumI n (fun s => sumI m fun y => F s y) = sumI m fun y => sumI n fun s => F s y
  | 0 => by
    show (0 : Int) = sumI m fun _ => 0
    rw [sumI_const, Int.mul_zero]
  | n + 1 => by
    show sumI n (fun s => sumI m fun y => F s y) + sumI m (fun y => F n y) = sumI m fun y => sumI n (fun s => F s y) + F n y
    rw [sumI_swap F m n, sumI_add]
theorem xor_bit (a b k : Nat) : (a ^^^ b) / 2 ^ k % 2 = (a / 2 ^ k + b / 2 ^ k) % 2 := by
  have h := Nat.testBit_xor a b k
  have t : ∀ n : Nat, n.testBit k = decide (n / 2 ^ k % 2 = 1) := fun n => Nat.testBit_eq_decide_div_mod_eq
  rw [t, t, t] at h
  have c1 : (a ^^^ b) / 2 ^ k % 2 = 0 ∨ (a ^^^ b) / 2 ^ k % 2 = 1 := by omega
  have c2 : a / 2 ^ k % 2 = 0 ∨ a / 2 ^ k % 2 = 1 := by omega
  have c3 : b / 2 ^ k % 2 = 0 ∨ b / 2 ^ k % 2 = 1 := by omega
  have e : (a / 2 ^ k + b / 2 ^ k) % 2 = (a / 2 ^ k % 2 + b / 2 ^ k % 2) % 2 := Nat.add_mod _ _ _
  rw [e]
  rcases c1 with c1 | c1 <;> rcases c2 with c2 | c2 <;> rcases c3 with c3 | c3 <;> rw [c1, c2, c3] at h ⊢ <;> first | rfl | cases h
theorem chi_mul : ∀ p s x y, chi p s x * chi p s y = chi p s (x ^^^ y)
  | 0, _, _, _ => rfl
  | p + 1, s, x, y => by
    show chi p s x * (if _ ∧ _ then -1 else 1) * (chi p s y * (if _ ∧ _ then -1 else 1)) = chi p s (x ^^^ y) * (if _ ∧ _ then -1 else 1)
    rw [← chi_mul p s x y, xor_bit]
    have hx : x / 2 ^ p % 2 = 0 ∨ x / 2 ^ p % 2 = 1 := by omega
    have hy : y / 2 ^ p % 2 = 0 ∨ y / 2 ^ p % 2 = 1 := by omega
    have e : (x / 2 ^ p + y / 2 ^ p) % 2 = (x / 2 ^ p % 2 + y / 2 ^ p % 2) % 2 := Nat.add_mod _ _ _
    rw [e]
    rcases chi_pm p s x with h1 | h1 <;> rcases chi_pm p s y with h2 | h2 <;> rw [h1, h2] <;> by_cases hs : s / 2 ^ p % 2 = 1 <;> rcases hx with hx | hx <;> rcases hy with hy | hy <;> rw [hx, hy] <;> simp [hs]
theorem xor_lt {w m x : Nat} (hm : m < 2 ^ w) (hx : x < 2 ^ w) : m ^^^ x < 2 ^ w := Nat.xor_lt_two_pow hm hx
end C
set_option Elab.async false
set_option maxRecDepth 100000
set_option maxHeartbeats 1000000
set_option linter.unusedVariables false
namespace C
open PySem PySem.Spec PyProof.Rows L2 NdefX DL
local macro_rules | `(tactic| walk_at "dl") => `(tactic| simp only [wSeq, wLc, wTrue, wRaise0, wRaiseL, wSplit, wJoin, wFs, wSlS1, wSlS2, wAug, wItemsC, wEnum, pStr, fStr, pIntS, fIntS, roInS, orF, NoExc, dgTwo, wItemsT, wSlS0, wIsdig, roMulS, roInL, wIndexS, wSum, pSum, fSum, lk_wide, lk_held, okT_T, wFld, wGet, wMeth, wOwn2, wOwnI, wOwn1, wOwnLen, wOwnStr, wRevT, wZip, wItemsLT, wTupD, wLstD, wMv, isOwn, insOf, iStm, iFld, iEnd, pSumT, fSumT, wNever, tb, eq_self, exists_eq_left', Option.some.injEq, lackN, wTruth, wMinL, roMinL, wEnum, wSlTo, wSlFrom, wPopAt, wLenO,  wIf, wNext, wBreak, wCont, wRet, wRetN, wDrop, wSet, wTest, wAndB, wOrB, wNotB, wIsi, wVar, wC, wOp, wRaise, wCall, wCons, wNil, wFun, wPar, wTup, wNeg, wUn, wIfE, wAndV, wOrV, wNotV, wUnp2, wLst, wIxO, wLenO, wSetIx, wAppend, wDic0, wFor, wItemsL, wItemsS, wRng1, wRng2, wListRev, dgName, roAdd, roI, roI0, roB, roIx, roIsN, roF, roL, datas, List.map_cons, List.map_nil, entry, List.length_cons, List.length_nil, List.cons_append, List.nil_append, List.replicate, List.replicate_succ, List.replicate_zero, Nat.reduceAdd, Nat.reduceSub, Nat.zero_add,
  List.getElem?_cons_zero, List.getElem?_cons_succ, List.set_cons_zero, List.set_cons_succ, dat_sh, dat_ow, dat_dp, DL.isInt, DL.isBool, DL.isStr, DL.isLst, DL.isTup, PinD, Bool.not_true, Bool.not_false, Bool.false_eq_true, if_true, if_false, true_and, and_true, OkAD, bodyEnds, pInt1, pInt2, fAbs, fMin, fMax, pIntOf, fIntOf, pLen, fLen, pSeq, fSeq, reduceIte, decide_eq_true_eq, ite_true, ite_false, Bool.and_eq_true, Bool.not_eq_true', roEq_int, Bool.true_xor, Bool.false_xor, Bool.true_eq_false])
theorem bxor_n (a b : Nat) : Builtin.bitXor (a : Int) (b : Int) = ((a ^^^ b : Nat) : Int) := by
  rw [Bits.bitXor_pp (by omega) (by omega), Int.toNat_natCast, Int.toNat_natCast]
theorem lc_rowN {n : Nat} {i : Nat} {we : DT Sl} {R : List D → DEnv → Prop} {ρ : DEnv} (g : Nat → D) (hn : n ≤ 1000) (hu : ρ.set i .un = ρ)
    (he : ∀ x : Nat, x < n → ∀ (Q : Sl → DEnv → Prop) (E : EC), Q (.sh (g x)) (ρ.set i (.sh (.int x))) → we (ρ.set i (.sh (.int x))) Q E) (h : R ((List.range n).map g) ρ) : lcD i wTrue we R (rangeD 0 n) [] ρ := by
  rw [rangeD_map]
  exact lcD_all (fun (k : Nat) => D.int k) g (List.range n) (fun x hx => he x (List.mem_range.mp hx)) hu (by rw [List.length_range]; omega) h
theorem TB.at {w : Nat} {l : List Nat} (h : TB w l) {x : Nat} (hx : x < 2 ^ w) : l.getD x 0 ≤ 1 := by
  have hl : x < l.length := by rw [h.len]; exact hx
  rw [List.getD_eq_getElem?_getD, List.getElem?_eq_getElem hl]
  exact h.bit _ (List.getElem_mem hl)
theorem sat_check_table_shades : ∀ ds Q E', W_check_table_shades ds Q E' → p_check_table_shades (bodyEnds Q) (entry 2 ds) (fun e _ => E' e) := by
  intro ds Q E' h
  have hl := len_check_table_shades ds Q E' h
  match ds, hl, h with
  | [d, y], _, h =>
    obtain ⟨z, rfl⟩ := chkT_str h
    unfold p_check_table_shades
    walk_at "dl"
    exact walk_chkT h
theorem bits_w : ∀ w : Nat, w < 7 → Builtin.Int.intBits (((2 ^ w : Nat) : Int)) = w + 1 := by decide +kernel
theorem sat_width_of_length : ∀ ds Q E', W_width_of_length ds Q E' → p_width_of_length (bodyEnds Q) (entry 1 ds) (fun e _ => E' e) := by
  rintro ds Q E' ⟨w, rfl, hw, hq⟩
  unfold p_width_of_length
  walk_at "dl"
  rw [bits_w w (by omega)]
  have e : ((w + 1 : Nat) : Int) - 1 = w := by omega
  rw [e]
  exact bodyR hq
theorem iD_len (r : List Int) : (iD r).length = r.length := by unfold iD; rw [List.length_map]
theorem atD_iD {r : List Int} {i : Int} (h0 : 0 ≤ i) (h1 : i < r.length) : atD (iD r) i = some (.int (r.getD i.toNat 0)) := by
  unfold atD atI ixN
  rw [if_pos h0, iD_len, if_pos h1]
  show (iD r)[i.toNat]? = _
  unfold iD
  have hl : i.toNat < r.length := by omega
  rw [List.getElem?_map, List.getElem?_eq_getElem hl, List.getD_eq_getElem?_getD, List.getElem?_eq_getElem hl]; rfl
/-- a bit of a word, seen by and, xor, or -/
theorem gap_and : ∀ x < 64, ∀ p < 6, (x &&& 2 ^ p = 0) = (x / 2 ^ p % 2 = 0) := by
  have : ∀ x < 64, ∀ p < 6, decide (x &&& 2 ^ p = 0) = decide (x / 2 ^ p % 2 = 0) := by decide +kernel
  exact fun x hx p hp => by
    have h := this x hx p hp
    by_cases h1 : x &&& 2 ^ p = 0
    · rw [decide_eq_true h1] at h; exact propext ⟨fun _ => of_decide_eq_true h.symm, fun _ => h1⟩
    · rw [decide_eq_false h1] at h; exact propext ⟨fun z => absurd z h1, fun z => absurd z (of_decide_eq_false h.symm)⟩
theorem gap_xor1 : ∀ x < 64, ∀ p < 6, x / 2 ^ p % 2 = 1 → x ^^^ 2 ^ p = x - 2 ^ p := by decide +kernel
theorem gap_or0 : ∀ x < 64, ∀ p < 6, x / 2 ^ p % 2 = 0 → x ||| 2 ^ p = x + 2 ^ p := by decide +kernel
theorem bor_n (a b : Nat) : Builtin.bitOr (a : Int) (b : Int) = ((a ||| b : Nat) : Int) := by
  rw [Bits.bitOr_pp (by omega) (by omega), Int.toNat_natCast, Int.toNat_natCast]
theorem iD_snoc {r : List Int} {k : Nat} (h : k < r.length) : iD (r.take k) ++ [.int (r.getD k 0)] = iD (r.take (k + 1)) := by
  unfold iD
  rw [List.take_succ, List.map_append, List.getElem?_eq_getElem h, List.getD_eq_getElem?_getD, List.getElem?_eq_getElem h]
  rfl
theorem sgD_iD (l : List Nat) : sgD l = iD (sgI l) := by unfold sgD iD sgI; rw [List.map_map]; rfl
theorem isT_no {w : Nat} {l : List Nat} {P : Prop} (h : isT (tb w l) = some false) : P := by
  have := (isT_tb (w := w) (l := l)).symm.trans h
  cases this
theorem minI_spec : ∀ {r : List Int}, r ≠ [] → minI r ∈ r ∧ ∀ y ∈ r, minI r ≤ y
  | [], h => absurd rfl h
  | [a], _ => ⟨List.mem_singleton.mpr rfl, fun y hy => by rw [List.mem_singleton.mp hy]; exact Int.le_refl _⟩
  | a :: b :: r, _ => by
    obtain ⟨h1, h2⟩ := minI_spec (r := b :: r) (fun z => by cases z)
    show min a (minI (b :: r)) ∈ _ ∧ ∀ y ∈ _, min a (minI (b :: r)) ≤ y
    refine ⟨?_, fun y hy => ?_⟩
    · by_cases h : a ≤ minI (b :: r)
      · rw [Int.min_eq_left h]; exact List.mem_cons_self
      · rw [Int.min_eq_right (by omega)]; exact List.mem_cons_of_mem _ h1
    · rcases List.mem_cons.mp hy with rfl | hy
      · exact Int.min_le_left _ _
      · exact Int.le_trans (Int.min_le_right _ _) (h2 y hy)
theorem minI_is {r : List Int} {m : Int} (h1 : m ∈ r) (h2 : ∀ y ∈ r, m ≤ y) : m = minI r := by
  obtain ⟨h3, h4⟩ := minI_spec (r := r) (fun z => by rw [z] at h1; cases h1)
  have := h2 _ h3
  have := h4 _ h1
  omega
theorem dsL_len {w : Nat} {l : List Nat} (h : TB w l) : (dsL w l).length = 2 ^ w := by unfold dsL; rw [List.length_map, scL_len h]
end C
set_option Elab.async false
set_option maxRecDepth 100000
set_option maxHeartbeats 1000000
set_option linter.unusedVariables false
namespace C
open PySem PySem.Spec PyProof.Rows L2 NdefX DL
local macro_rules | `(tactic| walk_at "dl") => `(tactic| simp only [wSeq, wLc, wTrue, wRaise0, wRaiseL, wSplit, wJoin, wFs, wSlS1, wSlS2, wAug, wItemsC, wEnum, pStr, fStr, pIntS, fIntS, roInS, orF, NoExc, dgTwo, wItemsT, wSlS0, wIsdig, roMulS, roInL, wIndexS, wSum, pSum, fSum, lk_wide, lk_held, okT_T, wFld, wGet, wMeth, wOwn2, wOwnI, wOwn1, wOwnLen, wOwnStr, wRevT, wZip, wItemsLT, wTupD, wLstD, wMv, isOwn, insOf, iStm, iFld, iEnd, pSumT, fSumT, wNever, tb, eq_self, exists_eq_left', Option.some.injEq, lackN, wTruth, wMinL, roMinL, wEnum, wSlTo, wSlFrom, wPopAt, wLenO,  wIf, wNext, wBreak, wCont, wRet, wRetN, wDrop, wSet, wTest, wAndB, wOrB, wNotB, wIsi, wVar, wC, wOp, wRaise, wCall, wCons, wNil, wFun, wPar, wTup, wNeg, wUn, wIfE, wAndV, wOrV, wNotV, wUnp2, wLst, wIxO, wLenO, wSetIx, wAppend, wDic0, wFor, wItemsL, wItemsS, wRng1, wRng2, wListRev, dgName, roAdd, roI, roI0, roB, roIx, roIsN, roF, roL, datas, List.map_cons, List.map_nil, entry, List.length_cons, List.length_nil, List.cons_append, List.nil_append, List.replicate, List.replicate_succ, List.replicate_zero, Nat.reduceAdd, Nat.reduceSub, Nat.zero_add,
  List.getElem?_cons_zero, List.getElem?_cons_succ, List.set_cons_zero, List.set_cons_succ, dat_sh, dat_ow, dat_dp, DL.isInt, DL.isBool, DL.isStr, DL.isLst, DL.isTup, PinD, Bool.not_true, Bool.not_false, Bool.false_eq_true, if_true, if_false, true_and, and_true, OkAD, bodyEnds, pInt1, pInt2, fAbs, fMin, fMax, pIntOf, fIntOf, pLen, fLen, pSeq, fSeq, reduceIte, decide_eq_true_eq, ite_true, ite_false, Bool.and_eq_true, Bool.not_eq_true', roEq_int, Bool.true_xor, Bool.false_xor, Bool.true_eq_false])
end C
set_option Elab.async false
set_option maxRecDepth 100000
set_option maxHeartbeats 1000000
set_option linter.unusedVariables false
namespace C
open PySem PySem.Spec PyProof.Rows L2 NdefX DL
local macro_rules | `(tactic| walk_at "dl") => `(tactic| simp only [wSeq, wLc, wTrue, wRaise0, wRaiseL, wSplit, wJoin, wFs, wSlS1, wSlS2, wAug, wItemsC, wEnum, pStr, fStr, pIntS, fIntS, roInS, orF, NoExc, dgTwo, wItemsT, wSlS0, wIsdig, roMulS, roInL, wIndexS, wSum, pSum, fSum, lk_wide, lk_held, okT_T, wFld, wGet, wMeth, wOwn2, wOwnI, wOwn1, wOwnLen, wOwnStr, wRevT, wZip, wItemsLT, wTupD, wLstD, wMv, isOwn, insOf, iStm, iFld, iEnd, pSumT, fSumT, wNever, tb, eq_self, exists_eq_left', Option.some.injEq, lackN, wTruth, wMinL, roMinL, wEnum, wSlTo, wSlFrom, wPopAt, wLenO,  wIf, wNext, wBreak, wCont, wRet, wRetN, wDrop, wSet, wTest, wAndB, wOrB, wNotB, wIsi, wVar, wC, wOp, wRaise, wCall, wCons, wNil, wFun, wPar, wTup, wNeg, wUn, wIfE, wAndV, wOrV, wNotV, wUnp2, wLst, wIxO, wLenO, wSetIx, wAppend, wDic0, wFor, wItemsL, wItemsS, wRng1, wRng2, wListRev, dgName, roAdd, roI, roI0, roB, roIx, roIsN, roF, roL, datas, List.map_cons, List.map_nil, entry, List.length_cons, List.length_nil, List.cons_append, List.nil_append, List.replicate, List.replicate_succ, List.replicate_zero, Nat.reduceAdd, Nat.reduceSub, Nat.zero_add,
  List.getElem?_cons_zero, List.getElem?_cons_succ, List.set_cons_zero, List.set_cons_succ, dat_sh, dat_ow, dat_dp, DL.isInt, DL.isBool, DL.isStr, DL.isLst, DL.isTup, PinD, Bool.not_true, Bool.not_false, Bool.false_eq_true, if_true, if_false, true_and, and_true, OkAD, bodyEnds, pInt1, pInt2, fAbs, fMin, fMax, pIntOf, fIntOf, pLen, fLen, pSeq, fSeq, reduceIte, decide_eq_true_eq, ite_true, ite_false, Bool.and_eq_true, Bool.not_eq_true', roEq_int, Bool.true_xor, Bool.false_xor, Bool.true_eq_false])
theorem dsL_get {w x : Nat} {l : List Nat} (h : TB w l) (hx : x < 2 ^ w) : (dsL w l).getD x 0 = (2 ^ w - sc w l x) / 2 := by
  unfold dsL
  have h1 := scL_get h hx
  have hl : x < (scL w l).length := by rw [scL_len h]; exact hx
  rw [List.getD_eq_getElem?_getD, List.getElem?_eq_getElem hl] at h1
  rw [List.getD_eq_getElem?_getD, List.getElem?_map, List.getElem?_eq_getElem hl, ← h1]; rfl
theorem uniqN_some {w x : Nat} {l : List Nat} (h : TB w l) (hx : x < 2 ^ w) (hs : (2 : Int) ^ w < 2 * sc w l x) : uniqN w l = some x := by
  unfold uniqN
  cases hf : (List.range (2 ^ w)).find? fun x => decide ((2 : Int) ^ w < 2 * (scL w l).getD x 0) with
  | none =>
    have := List.find?_eq_none.mp hf x (List.mem_range.mpr hx)
    rw [scL_get h hx, decide_eq_true hs] at this
    exact absurd rfl this
  | some y =>
    have h1 := List.find?_some hf
    have h2 := List.mem_range.mp (List.mem_of_find?_eq_some hf)
    rw [scL_get h h2] at h1
    have h3 := of_decide_eq_true h1
    by_cases e : y = x
    · rw [e]
    · have := sc_two h h2 hx e
      have e2 := pow_i w
      omega
end C
set_option Elab.async false
set_option maxRecDepth 100000
set_option maxHeartbeats 1000000
set_option linter.unusedVariables false
namespace C
open PySem PySem.Spec PyProof.Rows L2 NdefX DL
local macro_rules | `(tactic| walk_at "dl") => `(tactic| simp only [wSeq, wLc, wTrue, wRaise0, wRaiseL, wSplit, wJoin, wFs, wSlS1, wSlS2, wAug, wItemsC, wEnum, pStr, fStr, pIntS, fIntS, roInS, orF, NoExc, dgTwo, wItemsT, wSlS0, wIsdig, roMulS, roInL, wIndexS, wSum, pSum, fSum, lk_wide, lk_held, okT_T, wFld, wGet, wMeth, wOwn2, wOwnI, wOwn1, wOwnLen, wOwnStr, wRevT, wZip, wItemsLT, wTupD, wLstD, wMv, isOwn, insOf, iStm, iFld, iEnd, pSumT, fSumT, wNever, tb, eq_self, exists_eq_left', Option.some.injEq, lackN, wTruth, wMinL, roMinL, wEnum, wSlTo, wSlFrom, wPopAt, wLenO,  wIf, wNext, wBreak, wCont, wRet, wRetN, wDrop, wSet, wTest, wAndB, wOrB, wNotB, wIsi, wVar, wC, wOp, wRaise, wCall, wCons, wNil, wFun, wPar, wTup, wNeg, wUn, wIfE, wAndV, wOrV, wNotV, wUnp2, wLst, wIxO, wLenO, wSetIx, wAppend, wDic0, wFor, wItemsL, wItemsS, wRng1, wRng2, wListRev, dgName, roAdd, roI, roI0, roB, roIx, roIsN, roF, roL, datas, List.map_cons, List.map_nil, entry, List.length_cons, List.length_nil, List.cons_append, List.nil_append, List.replicate, List.replicate_succ, List.replicate_zero, Nat.reduceAdd, Nat.reduceSub, Nat.zero_add,
  List.getElem?_cons_zero, List.getElem?_cons_succ, List.set_cons_zero, List.set_cons_succ, dat_sh, dat_ow, dat_dp, DL.isInt, DL.isBool, DL.isStr, DL.isLst, DL.isTup, PinD, Bool.not_true, Bool.not_false, Bool.false_eq_true, if_true, if_false, true_and, and_true, OkAD, bodyEnds, pInt1, pInt2, fAbs, fMin, fMax, pIntOf, fIntOf, pLen, fLen, pSeq, fSeq, reduceIte, decide_eq_true_eq, ite_true, ite_false, Bool.and_eq_true, Bool.not_eq_true', roEq_int, Bool.true_xor, Bool.false_xor, Bool.true_eq_false])
end C
set_option Elab.async false
set_option maxRecDepth 100000
set_option maxHeartbeats 1000000
set_option linter.unusedVariables false
/-! the plain law of breaking pairs: the count by all pairs and by the cubes of the scores -/
namespace C
open PySem PySem.Spec PyProof.Rows L2 NdefX DL
theorem sum_listI (g : Nat → Nat) : ∀ n, (((List.range n).map g).sum : Int) = sumI n fun x => (g x : Int)
  | 0 => rfl
  | n + 1 => by
    rw [List.range_succ, List.map_append, List.sum_append]
    show ((((List.range n).map g).sum + [g n].sum : Nat) : Int) = sumI n _ + (g n : Int)
    rw [Int.natCast_add, sum_listI g n]
    simp
theorem sumI_list (g : Nat → Int) : ∀ n, ((List.range n).map g).sum = sumI n g
  | 0 => rfl
  | n + 1 => by
    rw [List.range_succ, List.map_append, List.sum_append, sumI_list g n]
    simp [sumI]
/-! ### what leaves the sum as it is -/
theorem chi_sq (w s y : Nat) : chi w s y * chi w s y = 1 := by rcases chi_pm w s y with h | h <;> rw [h] <;> rfl
theorem sumI_perm {n : Nat} {φ ψ : Nat → Nat} (h : ∀ x, x < n → φ x < n) (k : ∀ x, x < n → ψ x < n) (h1 : ∀ x, x < n → ψ (φ x) = x) (h2 : ∀ x, x < n → φ (ψ x) = x) (g : Nat → Int) : sumI n (fun x => g (φ x)) = sumI n g := by
  have e1 : sumI n (fun x => g (φ x)) = sumI n fun x => sumI n fun z => if z = φ x then g (φ x) else 0 := sumI_congr fun x hx => by rw [sumI_one, if_pos (h x hx)]
  rw [e1, sumI_swap]
  refine sumI_congr fun z hz => ?_
  have e2 : sumI n (fun x => if z = φ x then g (φ x) else 0) = sumI n fun x => if x = ψ z then g z else 0 := sumI_congr fun x hx => by
    by_cases c : z = φ x
    · subst c
      rw [if_pos rfl, if_pos (h1 x hx).symm]
    · rw [if_neg c, if_neg (fun e => c (by rw [e, h2 z hz]))]
  rw [e2, sumI_one, if_pos (k z hz)]
end C
set_option Elab.async false
set_option maxRecDepth 100000
set_option maxHeartbeats 1000000
set_option linter.unusedVariables false
/-! the plain law of tables near a sum-table: margins, votes, the nearest set -/
namespace C
open PySem PySem.Spec PyProof.Rows L2 NdefX DL
theorem mg_sum {w x : Nat} {l : List Nat} (h : TB w l) (hx : x < 2 ^ w) : mgI w l x = sumI (2 ^ w) fun y => fI l y * fI l (x ^^^ y) := by
  unfold mgI onesN
  rw [h.len, sum_listI]
  have e : sumI (2 ^ w) (fun y => fI l y * fI l (x ^^^ y)) = sumI (2 ^ w) (fun y => 1 - 2 * ((if l.getD y 0 = l.getD (x ^^^ y) 0 then 0 else 1 : Nat) : Int)) := sumI_congr fun y hy => by
    unfold fI
    have h1 := h.at hy
    have h2 := h.at (xor_lt hx hy)
    have c1 : l.getD y 0 = 0 ∨ l.getD y 0 = 1 := by omega
    have c2 : l.getD (x ^^^ y) 0 = 0 ∨ l.getD (x ^^^ y) 0 = 1 := by omega
    rcases c1 with c1 | c1 <;> rcases c2 with c2 | c2 <;> rw [c1, c2] <;> rfl
  rw [e, sumI_sub, sumI_mul, sumI_const, Int.mul_one, pow_i]
theorem sumI_mono {f g : Nat → Int} : ∀ {n : Nat}, (∀ x, x < n → f x ≤ g x) → sumI n f ≤ sumI n g
  | 0, _ => Int.le_refl _
  | n + 1, h => by
    have a := sumI_mono (n := n) fun x hx => h x (by omega)
    have b := h n (by omega)
    show sumI n f + f n ≤ sumI n g + g n
    omega
theorem sumI_xor {w x : Nat} (hx : x < 2 ^ w) (g : Nat → Int) : sumI (2 ^ w) (fun y => g (x ^^^ y)) = sumI (2 ^ w) g :=
  sumI_perm (ψ := fun y => x ^^^ y) (fun y hy => xor_lt hx hy) (fun y hy => xor_lt hx hy) (fun y _ => by rw [← Nat.xor_assoc, Nat.xor_self, Nat.zero_xor]) (fun y _ => by rw [← Nat.xor_assoc, Nat.xor_self, Nat.zero_xor]) g
/-- the margin of a table near the set m's sum-table has m's sign, and is not small -/
theorem mg_near {w m x : Nat} {l : List Nat} (h : TB w l) (hx : x < 2 ^ w) : 2 * sc w l m - (2 ^ w : Nat) ≤ mgI w l x * chi w m x := by
  have e1 : mgI w l x * chi w m x = sumI (2 ^ w) fun y => (fI l y * chi w m y) * (fI l (x ^^^ y) * chi w m (x ^^^ y)) := by
    rw [mg_sum h hx, Int.mul_comm, ← sumI_mul]
    refine sumI_congr fun y hy => ?_
    rw [← chi_mul w m x y]
    have e2 := chi_sq w m y
    generalize chi w m y = b at e2 ⊢
    generalize chi w m x = a
    have e3 : fI l y * b * (fI l (x ^^^ y) * (a * b)) = a * (fI l y * fI l (x ^^^ y)) * (b * b) := by
      simp only [Int.mul_assoc, Int.mul_left_comm, Int.mul_comm]
    rw [e3, e2, Int.mul_one]
  have pm : ∀ y, y < 2 ^ w → fI l y * chi w m y = 1 ∨ fI l y * chi w m y = -1 := fun y hy => by
    rcases fI_pm h y hy with a | a <;> rcases chi_pm w m y with b | b <;> rw [a, b] <;> first | exact .inl rfl | exact .inr rfl
  have e4 : sumI (2 ^ w) (fun y => fI l y * chi w m y) = sc w l m := by
    unfold sc
    exact sumI_congr fun y _ => Int.mul_comm _ _
  have e5 : sumI (2 ^ w) (fun y => fI l (x ^^^ y) * chi w m (x ^^^ y)) = sc w l m := (sumI_xor hx fun y => fI l y * chi w m y).trans e4
  rw [e1]
  have e6 : sumI (2 ^ w) (fun y => fI l y * chi w m y + fI l (x ^^^ y) * chi w m (x ^^^ y) - 1) ≤ sumI (2 ^ w) fun y => (fI l y * chi w m y) * (fI l (x ^^^ y) * chi w m (x ^^^ y)) := sumI_mono fun y hy => by
    rcases pm y hy with a | a <;> rcases pm _ (xor_lt hx hy) with b | b <;> rw [a, b] <;> decide
  rw [sumI_sub, sumI_add, e4, e5, sumI_const, Int.mul_one] at e6
  omega
def parL (w m : Nat) : List Nat := (List.range (2 ^ w)).map fun x => popN (m &&& x) % 2
theorem par_TB {w m : Nat} (hw : w ≤ 6) : TB w (parL w m) := ⟨hw, by unfold parL; rw [List.length_map, List.length_range], fun b hb => by
  unfold parL at hb
  obtain ⟨x, _, rfl⟩ := List.mem_map.mp hb
  omega⟩
theorem par_get {w m x : Nat} (hx : x < 2 ^ w) : (parL w m).getD x 0 = popN (m &&& x) % 2 := by
  unfold parL
  rw [List.getD_eq_getElem?_getD, List.getElem?_map, List.getElem?_range hx]; rfl
theorem par_f {w m x : Nat} (hw : w ≤ 6) (hm : m < 2 ^ w) (hx : x < 2 ^ w) : fI (parL w m) x = chi w m x := by
  unfold fI
  rw [par_get hx, chi_par (by omega) hm]
theorem unl_sum {w : Nat} {l m : List Nat} (h : TB w l) (k : TB w m) : 2 * ((unlN l m : Nat) : Int) = (2 ^ w : Nat) - sumI (2 ^ w) fun x => fI l x * fI m x := by
  unfold unlN
  rw [h.len, sum_listI, ← sumI_mul]
  have e : sumI (2 ^ w) (fun x => 2 * ((if l.getD x 0 = m.getD x 0 then 0 else 1 : Nat) : Int)) = sumI (2 ^ w) fun x => 1 - fI l x * fI m x := sumI_congr fun x hx => by
    unfold fI
    have h1 := h.at hx
    have h2 := k.at hx
    have c1 : l.getD x 0 = 0 ∨ l.getD x 0 = 1 := by omega
    have c2 : m.getD x 0 = 0 ∨ m.getD x 0 = 1 := by omega
    rcases c1 with c1 | c1 <;> rcases c2 with c2 | c2 <;> rw [c1, c2] <;> rfl
  rw [e, sumI_sub, sumI_const, Int.mul_one]
/-- the score at a set, by the words unlike its sum-table -/
theorem sc_unl {w m : Nat} {l : List Nat} (h : TB w l) (hm : m < 2 ^ w) : sc w l m = (2 ^ w : Nat) - 2 * (unlN l (parL w m) : Nat) := by
  rw [unl_sum h (par_TB h.w6)]
  have e : sumI (2 ^ w) (fun x => fI l x * fI (parL w m) x) = sc w l m := by
    unfold sc
    exact sumI_congr fun x hx => by rw [par_f h.w6 hm hx, Int.mul_comm]
  rw [e]
  omega
/-- l is near the sum-table of m: k words are unlike, fewer than a quarter -/
structure Near (w m k : Nat) (l : List Nat) : Prop where
  tb : TB w l
  lt : m < 2 ^ w
  un : unlN l (parL w m) = k
  qu : 4 * k < 2 ^ w
theorem Near.sc {w m k : Nat} {l : List Nat} (h : Near w m k l) : C.sc w l m = (2 ^ w : Nat) - 2 * (k : Nat) := by rw [sc_unl h.tb h.lt, h.un]
theorem Near.big {w m k : Nat} {l : List Nat} (h : Near w m k l) : (2 : Int) ^ w < 2 * C.sc w l m := by
  have e := pow_i w
  have q := h.qu
  rw [h.sc]
  omega
theorem Near.uniq {w m k : Nat} {l : List Nat} (h : Near w m k l) : uniqN w l = some m := uniqN_some h.tb h.lt h.big
theorem Near.ds {w m k : Nat} {l : List Nat} (h : Near w m k l) : (dsL w l).getD m 0 = (k : Nat) := by
  rw [dsL_get h.tb h.lt, h.sc]
  have e := pow_i w
  omega
theorem Near.other {w m k s : Nat} {l : List Nat} (h : Near w m k l) (hs : s < 2 ^ w) (hn : s ≠ m) : ((k : Nat) : Int) < (dsL w l).getD s 0 := by
  rw [dsL_get h.tb hs]
  have e := pow_i w
  have q := h.qu
  have t := sc_two h.tb hs h.lt hn
  have o := sc_odd h.tb s
  rw [h.sc] at t
  omega
theorem Near.min {w m k : Nat} {l : List Nat} (h : Near w m k l) : minI (dsL w l) = (k : Nat) := by
  have hl : m < (dsL w l).length := by rw [dsL_len h.tb]; exact h.lt
  refine (minI_is ?_ fun y hy => ?_).symm
  · rw [← h.ds, List.getD_eq_getElem?_getD, List.getElem?_eq_getElem hl]
    exact List.getElem_mem hl
  · obtain ⟨s, hs, rfl⟩ := List.getElem_of_mem hy
    have e : (dsL w l)[s] = (dsL w l).getD s 0 := by rw [List.getD_eq_getElem?_getD, List.getElem?_eq_getElem hs]; rfl
    rw [e]
    rw [dsL_len h.tb] at hs
    by_cases c : s = m
    · rw [c, h.ds]; exact Int.le_refl _
    · have := h.other hs c; omega
theorem Near.mg {w m k x : Nat} {l : List Nat} (h : Near w m k l) (hx : x < 2 ^ w) : (2 ^ w : Nat) - 4 * ((k : Nat) : Int) ≤ mgI w l x * (1 - 2 * ((parL w m).getD x 0 : Nat)) := by
  have a := mg_near (m := m) h.tb hx
  have h6 := h.tb.w6
  rw [h.sc, chi_par (by omega) h.lt] at a
  rw [par_get hx]
  omega
end C
set_option Elab.async false
set_option maxRecDepth 100000
set_option maxHeartbeats 1000000
set_option linter.unusedVariables false
/-! the plain law of weights: squares of scores over a coset, told by pairs of words -/
namespace C
open PySem PySem.Spec PyProof.Rows L2 NdefX DL
/-- how a table goes with itself moved by m -/
def autoC (w : Nat) (l : List Nat) (m : Nat) : Int := sumI (2 ^ w) fun y => fI l y * fI l (m ^^^ y)
theorem sc_sq {w s : Nat} {l : List Nat} : sc w l s * sc w l s = sumI (2 ^ w) fun m => chi w s m * autoC w l m := by
  have e1 : sc w l s * sc w l s = sumI (2 ^ w) fun y => sumI (2 ^ w) fun m => chi w s m * (fI l y * fI l (m ^^^ y)) := by
    have a : sc w l s * sc w l s = sumI (2 ^ w) (fun y => sc w l s * (chi w s y * fI l y)) := (sumI_mul _ _ _).symm
    rw [a]
    refine sumI_congr fun y hy => ?_
    have b : sc w l s = sumI (2 ^ w) fun m => chi w s (y ^^^ m) * fI l (y ^^^ m) := (sumI_xor hy fun z => chi w s z * fI l z).symm
    rw [b, Int.mul_comm, ← sumI_mul]
    refine sumI_congr fun m _ => ?_
    rw [← chi_mul w s y m, Nat.xor_comm m y]
    have e2 := chi_sq w s y
    generalize chi w s y = u at e2 ⊢
    generalize chi w s m = v
    have e3 : u * fI l y * (u * v * fI l (y ^^^ m)) = v * (fI l y * fI l (y ^^^ m)) * (u * u) := by simp only [Int.mul_assoc, Int.mul_left_comm, Int.mul_comm]
    rw [e3, e2, Int.mul_one]
  rw [e1, sumI_swap]
  refine sumI_congr fun m _ => ?_
  rw [sumI_mul]
  rfl
theorem chi_add (k : Nat) : ∀ r a b, chi (k + r) a b = chi k a b * chi r (a / 2 ^ k) (b / 2 ^ k)
  | 0, a, b => (Int.mul_one _).symm
  | r + 1, a, b => by
    show chi (k + r) a b * _ = chi k a b * (chi r (a / 2 ^ k) (b / 2 ^ k) * _)
    rw [chi_add k r a b, Nat.div_div_eq_div_mul, Nat.div_div_eq_div_mul, ← Nat.pow_add, Int.mul_assoc]
    rfl
theorem chi_z (w y : Nat) : chi w 0 y = 1 := by
  have e := chi_mul w y 0 0
  rw [Nat.xor_self, chi_sq, chi_comm] at e
  exact e.symm
theorem chi_sumT {k r s m : Nat} (hs : s < 2 ^ k) (hm : m < 2 ^ (k + r)) : sumI (2 ^ r) (fun t => chi (k + r) (s + 2 ^ k * t) m) = chi k s m * (if m < 2 ^ k then ((2 ^ r : Nat) : Int) else 0) := by
  have z := Nat.two_pow_pos k
  have e : sumI (2 ^ r) (fun t => chi (k + r) (s + 2 ^ k * t) m) = chi k s m * sumI (2 ^ r) (fun t => chi r (m / 2 ^ k) t * chi r 0 t) := by
    rw [← sumI_mul]
    refine sumI_congr fun t _ => ?_
    rw [chi_add, chi_low (Nat.le_refl k), Nat.add_mul_div_left _ _ z, Nat.div_eq_of_lt hs, Nat.zero_add, chi_z, Int.mul_one, chi_comm r t]
  rw [e]
  congr 1
  by_cases c : m < 2 ^ k
  · rw [if_pos c, Nat.div_eq_of_lt c, sumI_congr (g := fun _ => 1) fun t _ => by rw [chi_z]; rfl, sumI_const]
    omega
  · rw [if_neg c]
    refine chi_orth r _ _ ?_
    have h1 : m / 2 ^ k < 2 ^ r := by
      rw [Nat.div_lt_iff_lt_mul z, Nat.mul_comm, ← Nat.pow_add]; exact hm
    have h2 : 0 < m / 2 ^ k := Nat.div_pos (by omega) z
    rw [Nat.mod_eq_of_lt h1, Nat.zero_mod]
    omega
theorem sumI_zero {f : Nat → Int} : ∀ {n : Nat}, (∀ x, x < n → f x = 0) → sumI n f = 0
  | 0, _ => rfl
  | n + 1, h => by
    show sumI n f + f n = 0
    rw [sumI_zero fun x hx => h x (by omega), h n (by omega)]; rfl
/-- what the pairs give -/
def pairI (w k s : Nat) (l : List Nat) : Int := sumI (2 ^ k) fun m => chi w s m * autoC w l m
theorem behind {k r s : Nat} {l : List Nat} (hs : s < 2 ^ k) : sumI (2 ^ r) (fun t => sc (k + r) l (s + 2 ^ k * t) * sc (k + r) l (s + 2 ^ k * t)) = ((2 ^ r : Nat) : Int) * pairI (k + r) k s l := by
  have z := Nat.two_pow_pos k
  have e1 : sumI (2 ^ r) (fun t => sc (k + r) l (s + 2 ^ k * t) * sc (k + r) l (s + 2 ^ k * t)) = sumI (2 ^ r) fun t => sumI (2 ^ (k + r)) fun m => chi (k + r) (s + 2 ^ k * t) m * autoC (k + r) l m := sumI_congr fun t _ => sc_sq
  rw [e1, sumI_swap]
  have e2 : ∀ m, m < 2 ^ (k + r) → sumI (2 ^ r) (fun t => chi (k + r) (s + 2 ^ k * t) m * autoC (k + r) l m) = autoC (k + r) l m * (chi k s m * (if m < 2 ^ k then ((2 ^ r : Nat) : Int) else 0)) := fun m hm => by
    rw [← chi_sumT hs hm, ← sumI_mul]
    exact sumI_congr fun t _ => Int.mul_comm _ _
  rw [sumI_congr e2]
  have hle : 2 ^ k ≤ 2 ^ (k + r) := Nat.pow_le_pow_right (by decide) (by omega)
  obtain ⟨d, hd⟩ : ∃ d, 2 ^ (k + r) = 2 ^ k + d := ⟨2 ^ (k + r) - 2 ^ k, by omega⟩
  have hsp : ∀ F : Nat → Int, sumI (2 ^ (k + r)) F = sumI (2 ^ k) F + sumI d fun x => F (2 ^ k + x) := fun F => by rw [hd, sumI_split]
  rw [hsp, sumI_zero (n := d) fun x _ => by rw [if_neg (by omega), Int.mul_zero, Int.mul_zero], Int.add_zero]
  unfold pairI
  rw [← sumI_mul]
  refine sumI_congr fun m hm => ?_
  have e3 : chi (k + r) s m = chi k s m := by
    rw [chi_add, Nat.div_eq_of_lt hm, chi_comm r, chi_z, Int.mul_one]
  rw [if_pos hm, e3]
  simp only [Int.mul_assoc, Int.mul_left_comm, Int.mul_comm]
theorem xor_join {k a b c : Nat} (hb : b < 2 ^ k) (hc : c < 2 ^ k) : (2 ^ k * a + b) ^^^ (2 ^ k * a + c) = b ^^^ c := by
  refine Nat.eq_of_testBit_eq fun j => ?_
  rw [Nat.testBit_xor, Nat.testBit_xor, Nat.testBit_two_pow_mul_add _ hb, Nat.testBit_two_pow_mul_add _ hc]
  by_cases h : j < k
  · rw [if_pos h, if_pos h]
  · rw [if_neg h, if_neg h, Bool.xor_self]
    have p : 2 ^ k ≤ 2 ^ j := Nat.pow_le_pow_right (by decide) (by omega)
    rw [Nat.testBit_lt_two_pow (by omega), Nat.testBit_lt_two_pow (by omega)]; rfl
theorem jw_xor {k x y : Nat} (hy : y < 2 ^ k) : x ^^^ jwN k x y = (x % 2 ^ k) ^^^ y := by
  have e : x = 2 ^ k * (x / 2 ^ k) + x % 2 ^ k := (Nat.div_add_mod x (2 ^ k)).symm
  have h := Nat.mod_lt x (Nat.two_pow_pos k)
  unfold jwN
  conv => lhs; lhs; rw [e]
  exact xor_join h hy
/-- the sum over the pairs of words with the same high part -/
theorem pairs {w k s : Nat} {l : List Nat} (hk : k ≤ w) : sumI (2 ^ w) (fun x => sumI (2 ^ k) fun y => fI l x * fI l (jwN k x y) * chi w s (x ^^^ jwN k x y)) = pairI w k s l := by
  have e1 : ∀ x, x < 2 ^ w → sumI (2 ^ k) (fun y => fI l x * fI l (jwN k x y) * chi w s (x ^^^ jwN k x y)) = sumI (2 ^ k) fun m => chi w s m * (fI l x * fI l (m ^^^ x)) := fun x hx => by
    have h := Nat.mod_lt x (Nat.two_pow_pos k)
    rw [← sumI_xor h fun m => chi w s m * (fI l x * fI l (m ^^^ x))]
    refine sumI_congr fun y hy => ?_
    have e2 : jwN k x y = (x % 2 ^ k ^^^ y) ^^^ x := by rw [← jw_xor hy, Nat.xor_comm, ← Nat.xor_assoc, Nat.xor_self, Nat.zero_xor]
    rw [jw_xor hy, Int.mul_comm]
    rw [e2]
  rw [sumI_congr e1, sumI_swap]
  unfold pairI autoC
  refine sumI_congr fun m _ => ?_
  rw [sumI_mul]
end C
set_option Elab.async false
set_option maxRecDepth 100000
set_option maxHeartbeats 1000000
set_option linter.unusedVariables false
/-! plain law of spans: closed under sums, what stands across it, sums over it by scores -/
namespace C
open PySem PySem.Spec PyProof.Rows L2 NdefX DL
/-- one word more -/
def grow (fd : List Nat) (u : Nat) : List Nat := if u ∈ fd then fd else fd ++ fd.map fun x => x ^^^ u
def spanB (us : List Nat) : List Nat := us.foldl grow [0]
/-- words of the width, closed under sums -/
structure Grp (w : Nat) (fd : List Nat) : Prop where
  zero : 0 ∈ fd
  lt : ∀ x ∈ fd, x < 2 ^ w
  nd : fd.Nodup
  cl : ∀ x ∈ fd, ∀ y ∈ fd, x ^^^ y ∈ fd
theorem xor_can (x y : Nat) : (x ^^^ y) ^^^ y = x := by rw [Nat.xor_assoc, Nat.xor_self, Nat.xor_zero]
theorem Grp.grow {w u : Nat} {fd : List Nat} (h : Grp w fd) (hu : u < 2 ^ w) : Grp w (grow fd u) := by
  unfold C.grow
  by_cases c : u ∈ fd
  · rw [if_pos c]; exact h
  · rw [if_neg c]
    have mm : ∀ z, z ∈ fd ++ fd.map (fun x => x ^^^ u) ↔ z ∈ fd ∨ z ^^^ u ∈ fd := fun z => by
      rw [List.mem_append, List.mem_map]
      constructor
      · rintro (h | ⟨x, hx, rfl⟩)
        · exact .inl h
        · exact .inr (by rw [xor_can]; exact hx)
      · rintro (h | h)
        · exact .inl h
        · exact .inr ⟨_, h, xor_can z u⟩
    refine ⟨(mm 0).mpr (.inl h.zero), fun x hx => ?_, ?_, fun x hx y hy => ?_⟩
    · rcases (mm x).mp hx with k | k
      · exact h.lt x k
      · rw [← xor_can x u]; exact xor_lt (h.lt _ k) hu
    · rw [List.nodup_append]
      refine ⟨h.nd, ?_, fun a ha b hb => ?_⟩
      · unfold List.Nodup
        rw [List.pairwise_map]
        refine h.nd.imp fun {a b} hab e => hab ?_
        rw [← xor_can a u, e, xor_can]
      · obtain ⟨y, hy, rfl⟩ := List.mem_map.mp hb
        intro e
        subst e
        refine c ?_
        have := h.cl _ hy _ ha
        rw [← Nat.xor_assoc, Nat.xor_self, Nat.zero_xor] at this
        exact this
    · rw [mm]
      rcases (mm x).mp hx with k | k <;> rcases (mm y).mp hy with k2 | k2
      · exact .inl (h.cl _ k _ k2)
      · refine .inr ?_
        rw [Nat.xor_assoc]; exact h.cl _ k _ k2
      · refine .inr ?_
        have e : (x ^^^ y) ^^^ u = (x ^^^ u) ^^^ y := by rw [Nat.xor_assoc, Nat.xor_comm y u, ← Nat.xor_assoc]
        rw [e]; exact h.cl _ k _ k2
      · refine .inl ?_
        have e : x ^^^ y = (x ^^^ u) ^^^ (y ^^^ u) := by
          rw [Nat.xor_comm y u, Nat.xor_assoc, ← Nat.xor_assoc u u y, Nat.xor_self, Nat.zero_xor]
        rw [e]; exact h.cl _ k _ k2
/-! ### sums over it -/
def inS (us : List Nat) (x : Nat) : Int := if x ∈ spanB us then 1 else 0
end C
set_option Elab.async false
set_option maxRecDepth 100000
set_option maxHeartbeats 1000000
set_option linter.unusedVariables false
/-! promises of rows, words and spans that more laws share -/
namespace C
open PySem PySem.Spec PyProof.Rows L2 NdefX DL
/-- a row's fault, by its kind and length -/
def rowJ (d : D) (lo hi : Int) : Option (Option Str) := match d with
  | .lst l => some (if (l.length : Int) < lo ∨ hi < l.length then some "WrongSize" else none)
  | .tup l => some (if (l.length : Int) < lo ∨ hi < l.length then some "WrongSize" else none)
  | d => (isJ d).map fun _ => some "WrongKind"
/-- the first item that is not good -/
def itemsK (g : D → Option Kd) : List D → Option Kd
  | [] => some (.ok .non)
  | d :: ds => match g d with
    | some (.ok _) => itemsK g ds
    | r => r
/-! ### the shades' own checks -/
def W_whole : DW1 := fun ds Q _ => ∃ d b, ds = [d] ∧ isJ d = some b ∧ Q (.sh (.bl b))
def f_rowS : List D → Option Kd
  | [d, .str z] => if z.length ≤ 1000 then (match d with
    | .lst _ => some (.ok .non)
    | .tup _ => some (.ok .non)
    | d => (isJ d).map fun _ => .error (Er1 "WrongKind" z)) else none
  | _ => none
def W_check_row_shades : DW1 := WF f_rowS
theorem len_check_row_shades : ∀ ds Q E, W_check_row_shades ds Q E → ds.length = 2 := lenF fun ds r h => by
  unfold f_rowS at h; split at h <;> first | rfl | cases h
/-! ### drawn rows -/
def W_law_as_row : DW1 := fun ds Q _ => ∃ l : List D, ds = [.sto, .lst l] ∧ Q (.sh (.lst l)) ∧ Q (.sh (.tup l))
theorem mono_law_as_row : MonoW W_law_as_row := fun _ _ _ _ _ hq _ ⟨l, a, b, c⟩ => ⟨l, a, hq _ b, hq _ c⟩
theorem mono_whole : MonoW W_whole := by
  intro ds Q Q' E E' hq he h
  repeat (first | exact hq _ h | exact he _ h | exact ends_mono hq he h | exact (fun p => hq _ (h p)) | exact (fun p F => hq _ (h p F)) | (obtain ⟨a, h⟩ := h; refine ⟨a, ?_⟩))
theorem len_whole : ∀ ds Q E, W_whole ds Q E → ds.length = 1 := by
  intro ds Q E h
  repeat (first | (have e := h.1; subst e; rfl) | (obtain ⟨_, h⟩ := h))
theorem mono_check_row_shades : MonoW W_check_row_shades := WF_mono
theorem len_law_as_row : ∀ ds Q E, W_law_as_row ds Q E → ds.length = 2 := by
  intro ds Q E h
  repeat (first | (have e := h.1; subst e; rfl) | (obtain ⟨_, h⟩ := h))
end C
set_option Elab.async false
set_option maxRecDepth 100000
set_option maxHeartbeats 1000000
set_option linter.unusedVariables false
/-! words whose places are put in another order -/
namespace C
open PySem PySem.Spec PyProof.Rows L2 NdefX DL
end C
set_option Elab.async false
set_option maxRecDepth 100000
set_option maxHeartbeats 1000000
set_option linter.unusedVariables false
/-! plain law of weights of starts: told by blocks, a start is its two children, all starts of one length add up -/
namespace C
open PySem PySem.Spec PyProof.Rows L2 NdefX DL
/-! ### ratios as pairs -/
end C
set_option Elab.async false
set_option maxRecDepth 100000
set_option maxHeartbeats 1000000
set_option linter.unusedVariables false
/-! plain law of scores of tables that are shifted or reordered -/
namespace C
open PySem PySem.Spec PyProof.Rows L2 NdefX DL
def spsL (w : Nat) : List Int := (List.range (2 ^ w)).map fun x => 1 - 2 * ((popN x % 2 : Nat) : Int)
theorem pop_high : ∀ k, k < 6 → ∀ x, x < 2 ^ k → popN (2 ^ k + x) % 2 = 1 - popN x % 2 := by decide +kernel
theorem sps_step {k : Nat} (hk : k < 6) : spsL k ++ (spsL k).map (fun m => -m) = spsL (k + 1) := by
  unfold spsL
  have e : 2 ^ (k + 1) = 2 ^ k + 2 ^ k := by rw [Nat.pow_succ]; omega
  rw [e, List.range_add, List.map_append, List.map_map, List.map_map]
  refine congrArg (fun q => _ ++ q) (List.map_congr_left fun x hx => ?_)
  have := pop_high k hk x (List.mem_range.mp hx)
  show -(1 - 2 * ((popN x % 2 : Nat) : Int)) = 1 - 2 * ((popN (2 ^ k + x) % 2 : Nat) : Int)
  rw [this]
  omega
theorem sps_get {w s k : Nat} (hw : w ≤ 6) (hs : s < 2 ^ w) : (spsL w).getD (s &&& k) 0 = chi w s k := by
  have hle := Nat.and_le_left (n := s) (m := k)
  unfold spsL
  rw [List.getD_eq_getElem?_getD, List.getElem?_map, List.getElem?_range (by omega), chi_par (by omega) hs]
  rfl
theorem sps_len (w : Nat) : (spsL w).length = 2 ^ w := by unfold spsL; rw [List.length_map, List.length_range]
end C
set_option Elab.async false
set_option maxRecDepth 100000
set_option maxHeartbeats 1000000
set_option linter.unusedVariables false
/-! plain law: turning words, squared scores by place and by size -/
namespace C
open PySem PySem.Spec PyProof.Rows L2 NdefX DL
end C
set_option Elab.async false
set_option maxRecDepth 100000
set_option maxHeartbeats 1000000
set_option linter.unusedVariables false
/-! promises on turning words, influences and the family's own defs -/
namespace C
open PySem PySem.Spec PyProof.Rows L2 NdefX DL
end C
set_option Elab.async false
set_option maxRecDepth 100000
set_option maxHeartbeats 4000000
set_option linter.unusedVariables false
/-! data-level layer, part Mr: lending where slots hold instances, too -/
namespace DL
open PySem PySem.Spec PyProof.Rows L2 NdefX
def plI : Nat → D → Bool
  | 0, _ => false
  | _ + 1, .non => true
  | _ + 1, .bl _ => true
  | _ + 1, .int _ => true
  | _ + 1, .str _ => true
  | _ + 1, .dic ks ds => okDc ks ds
  | n + 1, .lst l => decide (l.length ≤ 100000) && l.all (plI n)
  | n + 1, .tup l => decide (l.length ≤ 100000) && l.all (plI n)
  | n + 1, .ins _ _ l => l.all (plI n)
  | _ + 1, _ => false
section
variable {K : PySem.W.Frag} {so so' : Option Addr} {B : Hp}
theorem plI_rp : ∀ {n : Nat} {d : D} {v : V}, plI n d = true → Rp K so B v d → Rp K so' B v d := by
  intro n
  induction n with
  | zero => intro d v h; cases h
  | succ n ih =>
    have all : ∀ {ds : List D} {vs : List V}, ds.all (plI n) = true → Rps K so B vs ds → Rps K so' B vs ds := by
      intro ds
      induction ds with
      | nil => intro vs _ r; cases r; exact .nil
      | cons d ds ih2 =>
        intro vs h r
        rw [List.all_cons, Bool.and_eq_true] at h
        cases r with
        | cons r1 r2 => exact .cons (ih h.1 r1) (ih2 h.2 r2)
    intro d v h r
    cases r with
    | non => exact .non
    | bl b => exact .bl b
    | int i => exact .int i
    | str x => exact .str x
    | lst hp hr =>
      have h2 : (decide (_ ≤ 100000) && _) = true := h
      rw [Bool.and_eq_true] at h2
      exact .lst hp (all h2.2 hr)
    | tup hp hr =>
      have h2 : (decide (_ ≤ 100000) && _) = true := h
      rw [Bool.and_eq_true] at h2
      exact .tup hp (all h2.2 hr)
    | @dic p ks vs ds hp hl hr => exact .dic hp hl (lfD_rps (okDc_lf h).2.2.1 hr)
    | ins hp hl hr => exact .ins hp hl (all h hr)
    | exn _ _ => cases h
    | exa _ _ _ _ => cases h
    | sto _ => cases h
    | scr _ => cases h
end
def lendOkI (n : Nat) : List Bool → DEnv → Prop
  | true :: m, x :: r => x ≠ .un ∧ plI n x.dat = true ∧ lendOkI n m r
  | false :: m, _ :: r => lendOkI n m r
  | _, _ => True
theorem lendOkI_get {n : Nat} : ∀ {m : List Bool} {ρ : DEnv} {i : Nat} {x : Sl}, lendOkI n m ρ → m[i]? = some true → ρ[i]? = some x → x ≠ .un ∧ plI n x.dat = true
  | [], r, i, x, _, h1, _ => by simp at h1
  | true :: m, [], i, x, _, _, h => by simp at h
  | false :: m, [], i, x, _, _, h => by simp at h
  | true :: m, y :: r, 0, x, h, _, h2 => by cases h2; exact ⟨h.1, h.2.1⟩
  | false :: m, y :: r, 0, x, _, h1, _ => by cases h1
  | true :: m, y :: r, i + 1, x, h, h1, h2 => lendOkI_get (m := m) (ρ := r) (i := i) h.2.2 h1 h2
  | false :: m, y :: r, i + 1, x, h, h1, h2 => lendOkI_get (m := m) (ρ := r) (i := i) h h1 h2
def wLendI (m : List Bool) (we : DT Sl) : DT Sl := fun ρ Q _ => ∃ n, lendOkI n m ρ ∧ we (lendE m ρ) (fun z _ => leafD z.dat = true ∧ Q (.sh z.dat) ρ) (fun _ _ => False)
theorem wLendI_mono {m : List Bool} {we : DT Sl} (h : Mono we) : Mono (wLendI m we) := fun ρ _ _ _ _ hq _ ⟨n, h1, h2⟩ => ⟨n, h1, h (fun z _ k => ⟨k.1, hq _ _ k.2⟩) (fun _ _ z => z) h2⟩
section
variable {G : Gx} {X : Cx} {e : Expr} {we : DT Sl}
theorem de_lendI (m : List Bool) (he : ∀ B H, DE ⟨G.K, none, B, H, fun _ _ _ _ => False⟩ X e we) : DE G X e (wLendI m we) := by
  refine ⟨wLendI_mono (he (fun _ => none) (fun _ => none)).mono, ⟨fun pins s σ H Q I h => ?_⟩⟩
  obtain ⟨ρ, τ, ⟨l, B, hr0⟩, n, hok, hw⟩ := h
  obtain ⟨ρf, B', l2, r2, f3, f4⟩ := frz_all ((List.range ρ.length).filter fun i => m[i]? == some true) (ρ := ρ) (τ := τ) ⟨l, B, hr0⟩ fun i hi => by
    rw [List.mem_filter] at hi
    have hil := List.mem_range.mp hi.1
    refine ⟨ρ[i], List.getElem?_eq_getElem hil, ?_⟩
    exact (lendOkI_get hok (beq_iff_eq.mp hi.2) (List.getElem?_eq_getElem hil)).1
  have rE : Rel ⟨G.K, none, B', H, fun _ _ _ _ => False⟩ (σ.zip (lendE m ρ) ++ []) H B' := by
    refine ⟨Same.refl _, r2.hi, fun a o e _ => e, fun a xs e _ => (by show B' a ≠ none; rw [e]; exact Option.some_ne_none _), fun r hr => ?_, ?_, ?_, fun s z => by cases z⟩
    · rw [List.append_nil] at hr
      obtain ⟨i, hi⟩ := List.getElem?_of_mem hr
      rw [List.getElem?_zip_eq_some] at hi
      obtain ⟨q1, q2⟩ := r
      simp only [] at hi
      rcases lendE_get hi.2 with rfl | ⟨x, e1, rfl, e3⟩
      · show RepS _ _ _ _ q1 .un
        cases q1 <;> trivial
      · have hil : i < ρ.length := (List.getElem?_eq_some_iff.mp e1).1
        have g := f4 i (by rw [List.mem_filter]; exact ⟨List.mem_range.mpr hil, beq_iff_eq.mpr e3⟩) x e1
        obtain ⟨L, R, v, z1, z2, z3⟩ := zip_split l2 g
        have rp := r2.rep (v, .sh x.dat) (by rw [z2]; simp)
        rw [hi.1] at z1
        cases z1
        cases q1 with
        | none => exact rp
        | some u => exact plI_rp (lendOkI_get hok e3 e1).2 rp
    · rw [List.append_nil, feet_still fun y hy => ?_]
      · exact List.nodup_nil
      · obtain ⟨i, hi⟩ := List.getElem?_of_mem hy
        rcases lendE_get hi with rfl | ⟨x, _, rfl, _⟩
        · exact .inl rfl
        · exact .inr ⟨_, rfl⟩
    · rw [List.append_nil, feet_still fun y hy => ?_]
      · intro p hp; cases hp
      · obtain ⟨i, hi⟩ := List.getElem?_of_mem hy
        rcases lendE_get hi with rfl | ⟨x, _, rfl, _⟩
        · exact .inl rfl
        · exact .inr ⟨_, rfl⟩
  refine (he B' H).pe.run pins s σ H Q I ⟨lendE m ρ, [], ⟨by rw [lendE_len]; exact l, B', rE⟩, (he B' H).mono (fun z ρ1 k nz l1 v H1 A1 => ?_) (fun _ _ z => z.elim) hw⟩
  obtain ⟨kl, kq⟩ := k
  obtain ⟨B1, h1, h2⟩ := A1.still nz
  have sH : ∀ a o, H a = some o → H1 a = some o := fun a o e => h2.fr a o e (fun z => by cases z)
  have rN : Rel G (σ.zip ρ ++ τ) H1 B := ⟨hr0.lo, fun a o e => sH a o (hr0.hi a o e), fun a o e n => sH a o (hr0.fr a o e n), hr0.nw, fun r hr => (hr0.rep r hr).mono (Same.refl _) fun p _ o e => sH p o e, hr0.nd, hr0.ap, fun s e => by
    obtain ⟨s1, s2⟩ := hr0.st s e
    obtain ⟨ys, hy⟩ := hr0.store_some e
    exact ⟨s1, s2.mono (Same.refl _) ((sH s _ hy).trans hy.symm)⟩⟩
  have fin : ∀ d, Rp G.K none B1 v d → leafD d = true → Rp G.K G.so B v d := fun d r k => by
    cases r with
    | non => exact .non
    | bl b => exact .bl b
    | int i => exact .int i
    | str x => exact .str x
    | _ => cases k
  exact kq (fun z => by cases z) rfl v H1 (At.addSh l rN (fin _ h1 kl))
end
section
variable {G : Gx} {X : Cx} {e : Expr} {we : DT Sl}
end
section
variable {G : Gx} {X : Cx} {e : Expr} {wt : DT Bool}
end
end DL
set_option Elab.async false
set_option maxRecDepth 100000
set_option maxHeartbeats 1000000
set_option linter.unusedVariables false
/-! data-level layer, part Ms: a list some times over; an expression that is read in either of two ways -/
namespace DL
open PySem PySem.Spec PyProof.Rows L2 NdefX
theorem Rps.rep {K : PySem.W.Frag} {so : Option Addr} {B : Hp} {vs : List V} {ds : List D} (h : Rps K so B vs ds) : ∀ n, Rps K so B (List.replicate n vs).flatten (List.replicate n ds).flatten
  | 0 => .nil
  | n + 1 => by
    rw [List.replicate_succ, List.replicate_succ, List.flatten_cons, List.flatten_cons]
    exact h.append (Rps.rep h n)
section
variable {G : Gx} {X : Cx} {a b e : Expr} {wa wb w1 w2 : DT Sl} {pos : Pos}
end
end DL
set_option Elab.async false
set_option maxRecDepth 100000
set_option maxHeartbeats 4000000
set_option linter.unusedVariables false
/-! data-level layer, part Mt: xs.reverse() of an own list -/
namespace DL
open PySem PySem.Spec PyProof.Rows L2 NdefX
section
variable {G : Gx} {X : Cx} {pos : Pos}
end
end DL
set_option Elab.async false
set_option maxRecDepth 100000
set_option maxHeartbeats 4000000
set_option linter.unusedVariables false
/-! data-level layer, part Mu: t[:e] of a tuple, not the whole of it -/
namespace DL
open PySem PySem.Spec PyProof.Rows L2 NdefX
section
variable {G : Gx} {X : Cx} {a e : Expr} {wa we : DT Sl} {pos p2 : Pos}
end
end DL
set_option Elab.async false
set_option maxRecDepth 100000
set_option maxHeartbeats 4000000
set_option linter.unusedVariables false
/-! data-level layer, part Mv: a op b op2 c of ints -/
namespace DL
open PySem PySem.Spec PyProof.Rows L2 NdefX
section
variable {G : Gx} {X : Cx} {a b c : Expr} {wa wb wc : DT Sl} {pos : Pos}
end
end DL
set_option Elab.async false
set_option maxRecDepth 100000
set_option maxHeartbeats 4000000
set_option linter.unusedVariables false
/-! data-level layer, part Mw: [e for a in u if .. for b in v if ..], both names -/
namespace DL
open PySem PySem.Spec PyProof.Rows L2 NdefX
section
variable {G : Gx} {X : Cx}
end
end DL
set_option Elab.async false
set_option maxRecDepth 100000
set_option maxHeartbeats 4000000
set_option linter.unusedVariables false
/-! data-level layer, part Mx: an item of a tuple of one's own, taken out (the tuple is not seen any more) -/
namespace DL
open PySem PySem.Spec PyProof.Rows L2 NdefX
def wMvIx (i j : Nat) : DT Sl := fun ρ Q _ => match ρ[i]? with
  | some (.dp _ (.tup ds)) => ∃ d, ds[j]? = some d ∧ ∀ F, Q (.dp F d) (ρ.set i .un)
  | _ => False
theorem wMvIx_mono {i j : Nat} : Mono (wMvIx i j) := fun ρ _ _ _ _ hq _ h => by
  unfold wMvIx at h ⊢
  split at h
  · obtain ⟨d, h1, h2⟩ := h; exact ⟨d, h1, fun F => hq _ _ (h2 F)⟩
  · exact h.elim
theorem Dprs.get {K : PySem.W.Frag} {so : Option Addr} {B H : Hp} : ∀ {j : Nat} {vs : List V} {ds : List D} {F : List Addr} {d : D}, Dprs K so B H vs ds F → ds[j]? = some d → ∃ u Fj, vs[j]? = some u ∧ Dpr K so B H u d Fj ∧ Fj.Sublist F
  | 0, _, _, _, d, .cons h r, e => by
    have e : some _ = some d := e
    cases e
    exact ⟨_, _, rfl, h, List.sublist_append_left _ _⟩
  | j + 1, _, _, _, d, .cons h r, e => by
    obtain ⟨u, Fj, h1, h2, h3⟩ := Dprs.get (j := j) r (by simpa using e)
    exact ⟨u, Fj, by simpa using h1, h2, h3.trans (List.sublist_append_right _ _)⟩
theorem Dpr.tupI {K : PySem.W.Frag} {so : Option Addr} {B H : Hp} {v : V} {ds : List D} {F : List Addr} (t : Dpr K so B H v (.tup ds) F) : ∃ p vs, v = .ref p ∧ SqT K B p vs ∧ Dprs K so B H vs ds F := by
  cases t with
  | leaf h1 h2 =>
    cases h1 with
    | tup q r => exact ⟨_, _, rfl, q, r.dprs h2⟩
  | tup h1 h2 => exact ⟨_, _, rfl, h1, h2⟩
section
variable {G : Gx} {X : Cx} {pos : Pos} {b : Expr}
theorem de_mvIx (i j : Nat) {x : Str} {px : Pos} (hK : G.K = X.K) (hb : DE G X b (wC (.int (j : Nat)))) (hN : X.N[i]? = some x := by rfl) (hv : Vis X.env.scope x := by first | exact Or.inl rfl | exact Or.inr (Or.inl rfl) | exact Or.inr (Or.inr rfl)) (hd : (x == ("__debug__" : Str)) = false := by decide)
    (hcd : (x == ("__classdict__" : Str)) = false := by decide) (hs : PlainIx b := by exact fun _ _ => rfl) : DE G X (.Subscript (.Name x px) b pos) (wMvIx i j) := by
  refine ⟨wMvIx_mono, pe_weak (pe_ix ix_seq (pe_var hN hv hd hcd) hb.pe hs) fun σ H Q h => ?_⟩
  obtain ⟨ρ, τ, hA, hw⟩ := h
  unfold wMvIx at hw
  split at hw
  · rename_i F0 ds e
    obtain ⟨d, hj, hw⟩ := hw
    obtain ⟨L, R, v, h1, h2, h3⟩ := zip_split hA.len e
    obtain ⟨B0, hr0⟩ := hA.rel
    rw [h2, List.append_assoc, List.cons_append] at hr0
    cases v with
    | none => exact (hr0.rep (none, .dp F0 (.tup ds)) (by simp)).elim
    | some v =>
      refine ⟨v, h1, ρ, τ, hA, hb.mono (fun y ρ1 k ny l u H1 A1 => ?_) (fun _ _ e => e) (show wC (.int (j : Nat)) ρ (fun y ρ1 => y = .sh (.int (j : Nat)) ∧ ρ1 = ρ) (xw G τ) from ⟨rfl, rfl⟩)⟩
      obtain ⟨rfl, rfl⟩ := k
      have ev : u = .int (j : Nat) := by
        obtain ⟨B2, r2, r3⟩ := A1.still ny
        cases r2
        rfl
      subst ev
      obtain ⟨B, hr⟩ := A1.rel
      rw [h2, List.append_assoc, List.cons_append] at hr
      have rp : Dpr G.K G.so B H1 v (.tup ds) F0 := hr.rep (some v, .dp F0 (.tup ds)) (by simp)
      obtain ⟨p, vs, rfl, sq, dps⟩ := rp.tupI
      obtain ⟨w, Fj, g1, g2, g3⟩ := dps.get hj
      have sH := sqT_same hr.hi sq
      refine .inr (.inl ⟨p, vs, (j : Nat), w, rfl, rfl, (by rw [← hK]; exact sH), ?_, hw Fj (fun z => by cases z) (by rw [List.length_set]) w H1 ⟨by rw [List.length_set]; exact A1.len, B, ?_⟩⟩)
      · have jl : j < vs.length := by
          rcases Nat.lt_or_ge j vs.length with z | z
          · exact z
          · rw [List.getElem?_eq_none z] at g1; cases g1
        unfold atI ixN
        rw [if_pos (by omega), if_pos (by omega), Int.toNat_natCast]
        exact g1
      · rw [h3, List.append_assoc, List.cons_append]
        have f2 : feet (L ++ (some (.ref p), .un) :: (R ++ (τ ++ [(some w, .dp Fj d)]))) = feet L ++ (feet R ++ (feet τ ++ Fj)) := by
          rw [feet_split, feet_append, feet_append, feet_one]
          show feet L ++ ([] ++ _) = _
          rw [List.nil_append]; rfl
        have f1 : feet (L ++ (some (.ref p), .dp F0 (.tup ds)) :: (R ++ (τ ++ [(some (.int (j : Nat)), .sh (.int (j : Nat)))]))) = feet L ++ (F0 ++ (feet R ++ (feet τ ++ []))) := by rw [feet_split, feet_append, feet_append, feet_one]; rfl
        have pm : (feet (L ++ (some (.ref p), .un) :: (R ++ (τ ++ [(some w, .dp Fj d)])))).Perm (feet L ++ (Fj ++ (feet R ++ (feet τ ++ [])))) := by
          rw [f2, List.append_nil]
          refine List.Perm.append_left _ ?_
          have p1 : (Fj ++ (feet R ++ feet τ)).Perm ((feet R ++ feet τ) ++ Fj) := List.perm_append_comm
          rw [List.append_assoc] at p1
          exact p1.symm
        have sb : (feet L ++ (Fj ++ (feet R ++ (feet τ ++ [])))).Sublist (feet L ++ (F0 ++ (feet R ++ (feet τ ++ [])))) := List.Sublist.append (List.Sublist.refl _) (List.Sublist.append g3 (List.Sublist.refl _))
        have nd : (feet L ++ (F0 ++ (feet R ++ (feet τ ++ [])))).Nodup := f1 ▸ hr.nd
        refine ⟨hr.lo, hr.hi, hr.fr, hr.nw, fun r hm => ?_, pm.nodup_iff.mpr (nd.sublist sb), fun q hq => hr.ap q (by rw [f1]; exact sb.subset (pm.mem_iff.mp hq)), hr.st⟩
        rcases List.mem_append.mp hm with hm | hm
        · exact hr.rep r (List.mem_append_left _ hm)
        · rcases List.mem_cons.mp hm with rfl | hm
          · trivial
          · rcases List.mem_append.mp hm with hm | hm
            · exact hr.rep r (List.mem_append_right _ (List.mem_cons_of_mem _ (List.mem_append_left _ hm)))
            · rcases List.mem_append.mp hm with hm | hm
              · exact hr.rep r (List.mem_append_right _ (List.mem_cons_of_mem _ (List.mem_append_right _ (List.mem_append_left _ hm))))
              · have e : r = (some w, .dp Fj d) := by simpa using hm
                subst e
                exact g2
  · exact hw.elim
end
end DL
set_option Elab.async false
set_option maxRecDepth 100000
set_option maxHeartbeats 4000000
set_option linter.unusedVariables false
/-! data-level layer, part My: a comprehension over a range, with a condition, while an error is handled -/
namespace DL
open PySem PySem.Spec PyProof.Rows L2 NdefX
section
variable {X : Cx}
theorem lc_coreG {pins : List (Addr × Obj)} {s : Shared} {σ : St} {H : Hp} {Q : VK} {elt iter : Expr} {scope : Scope} {pos px pos' : Pos} {x : Str} {i : Nat} {ifs : List Expr} {wi : TI} {te : TE} {tt : TT} {use : Option (Value → Sem Unit)} {Qf : Value → Shared → Prop} (hot : L2H.HotC X) (hN : X.N.Nodup) (I : Inv X pins σ H s) (hi : L2H.PIH X (.Name x px) iter wi) (ok : BlkOk X.N X.env.scope scope [(x, i)])
    (hg : ∀ (s : Shared) (H : Hp) (C : Addr) (cl : List (Str × Addr)) (fp : List Addr), PG (blkH X s H scope (compEnvC scope cl C X.env) fp) (.Name x px) (gName i))
    (ht : ∀ (s : Shared) (H : Hp) (C : Addr) (cl : List (Str × Addr)) (fp : List Addr), PTs (blkH X s H scope (compEnvC scope cl C X.env) fp) ifs tt)
    (he : ∀ (s : Shared) (H : Hp) (C : Addr) (cl : List (Str × Addr)) (fp : List Addr), PE (blkH X s H scope (compEnvC scope cl C X.env) fp) elt te)
    (hs : ∀ x, foldedSetIterable iter X.env x = pure x) (h : tLc wi (gName i) tt te [i] σ H Q)
    (hRR : ∀ D C s' m H', Inv X pins σ H' s' → Q (.ref D) H' → s'.heap.Ns C m → FpOk X pins H' C → compPost (model X.prog X.w) X.A X.xe use Qf (.ref D) C (.ok .next) s') :
    wpAny (model X.prog X.w) X.A (comprehension (.ListComp elt [⟨.Name x px, iter, ifs, 0⟩] scope pos) scope X.env pos' (newList []) false (eval iter X.env) use) Qf X.xe s := by
  have caps : ∀ y ∈ scope.names, y.2 = .free → ∃ c, X.env.cells.lookup y.1 = some c := fun y hy e => (ok.free y hy e).elim (fun z => I.ok.has _ (.inl z)) fun z => I.ok.has _ (.inr z)
  refine wpAny_comprehension_free (use := use) rfl hs (closure_ok caps) ok.kind (fun y hy e => by rw [ok.uniq y hy, e]) (thn (hi.run pins s σ H _ I h) fun v s1 hv => thn hv fun itv s2 hv2 => ?_)
  obtain ⟨it, fp, tn, J, H1, ev, I2, T, st2, f2, q⟩ := hv2
  subst ev
  refine wpAny_newObj_type (newEnv_comp ?_) (by show 0 ≤ sizeLine; decide)
  generalize hD : s2.heap.objs.size = D
  have dn : H1 D = none := I2.hok.fresh (Nat.le_of_eq hD)
  obtain ⟨W, ⟨m0, w0⟩, turn⟩ := q D dn
  generalize hs3 : ({ s2 with heap := s2.heap.push { cls := .type "list", data := .seq ([] : List Value).toArray } } : Shared) = s3
  have h3 : s3.heap = s2.heap.push { cls := .type "list", data := .seq ([] : List Value).toArray } := by rw [← hs3]
  have I3 : Inv X pins σ (upd H1 D (.lst [])) s3 := by
    rw [← hs3]
    refine I2.laid (t' := s2.toks) (fun b o e => Heap.get?_push_of_some _ e) (Nat.le_of_eq hD) ⟨Nat.zero_le _, [], 0, .nil, ?_⟩
    rw [← hD]; exact Heap.get?_push_size _ rfl
  have small : ∀ b ∈ fp, b < s2.heap.objs.size := fun b hb => by obtain ⟨o, e, _⟩ := T.obj _ _ st2 b hb; exact Heap.lt_size e
  have f3 : ∀ b ∈ fp, FpOk X pins (upd H1 D (.lst [])) b ∧ b < s3.heap.objs.size := fun b hb => by
    have lt := small b hb
    have ne : b ≠ D := by rw [← hD]; exact Nat.ne_of_lt lt
    rw [h3, Heap.size_push]
    exact ⟨⟨by rw [upd_ne ne]; exact (f2 b hb).1, (f2 b hb).2⟩, Nat.lt_succ_of_lt lt⟩
  have st3 : tn 0 s3.heap := T.keep _ _ _ st2 fun b _ o e => by rw [h3]; exact Heap.get?_push_of_some _ e
  have I4 := block_start I3 ok hN f3
  have pg := hg s3 (upd H1 D (.lst [])) s3.heap.objs.size (cellsFrom (s3.heap.objs.size + 1) scope.names (cloFrom X.env.cells scope.names [])) fp
  have pt := ht s3 (upd H1 D (.lst [])) s3.heap.objs.size (cellsFrom (s3.heap.objs.size + 1) scope.names (cloFrom X.env.cells scope.names [])) fp
  have pe := he s3 (upd H1 D (.lst [])) s3.heap.objs.size (cellsFrom (s3.heap.objs.size + 1) scope.names (cloFrom X.env.cells scope.names [])) fp
  show codeAny _ _ (.compStart (.ListComp elt [⟨.Name x px, iter, ifs, 0⟩] scope pos) 0 (.ref it) (.ref D) (compEnvC scope (cellsFrom (s3.heap.objs.size + 1) scope.names (cloFrom X.env.cells scope.names [])) s3.heap.objs.size X.env)) (compPost (model X.prog X.w) X.A X.xe use Qf (.ref D) s3.heap.objs.size) { s3 with heap := pushCells (s3.heap.push { cls := .type "dict", data := .dict #[] }) scope.names }
  generalize hce : compEnvC scope (cellsFrom (s3.heap.objs.size + 1) scope.names (cloFrom X.env.cells scope.names [])) s3.heap.objs.size X.env = ce at I4 pg pt pe ⊢
  have cL : ce.locals = s3.heap.objs.size := by subst hce; rfl
  generalize hH3 : upd H1 D (.lst []) = H3 at I3 I4 pg pt pe w0 f3
  generalize hs4 : ({ s3 with heap := pushCells (s3.heap.push { cls := .type "dict", data := .dict #[] }) scope.names } : Shared) = s4 at I4 ⊢
  have st4 : tn 0 s4.heap := T.keep _ _ _ st3 fun b _ o e => by rw [← hs4]; exact pushCells_keeps _ _ _ _ (Heap.get?_push_of_some _ e)
  have pinB : ∀ p ∈ X.pn, s3.heap.get? p.1 = some p.2 ∧ H3 p.1 = none ∧ p.1 ≠ ce.locals ∧ p.1 ∉ frs X.stack ∧ ∀ v, p.2.data ≠ .cell v := fun p hp => by
    obtain ⟨z1, z2, z3, z4, z5⟩ := I3.pin p (List.mem_append_left _ hp)
    exact ⟨z1, z2, by rw [cL]; exact Nat.ne_of_lt (Heap.lt_size z1), fun z => (List.mem_cons.mp (I3.stkSub p.1 z)).elim z3 z4, z5⟩
  have J4 : Inv (blkH X s3 H3 scope ce fp) [] (wipe σ [i]) H3 s4 := repin I4 fun p hp => by
    obtain ⟨z1, z2, z3, z4, z5⟩ := pinB p hp
    exact ⟨by rw [← hs4]; exact pushCells_keeps _ _ _ _ (Heap.get?_push_of_some _ z1), z2, z3, z4, z5⟩
  have n3 : ∀ b ∈ fp, H3 b = none := fun b hb => (f3 b hb).1.1
  have pne : ∀ b ∈ fp, ∀ p ∈ X.pn, p.1 ≠ b := fun b hb p hp => (f2 b hb).2.2.2.2.2 p (List.mem_append_left _ hp)
  have stat : ∀ {σ' : St} {H' : Hp} {s' : Shared}, Inv (blkH X s3 H3 scope ce fp) [] σ' H' s' → (∀ b ∈ fp, H' b = none) → ∀ b ∈ fp, FpOk (blkH X s3 H3 scope ce fp) [] H' b := fun {σ' H' s'} I' hn b hb =>
    ⟨hn b hb, (I'.ok.exf b hb).1, I'.ok.exfs b hb, .inl hb, fun y c e => (I'.ok.exf b hb).2 y c e, fun p hp => pne b hb p (by simpa using hp)⟩
  have loop : codeAny (model X.prog X.w) X.A (.compLoop (.ListComp elt [⟨.Name x px, iter, ifs, 0⟩] scope pos) 0 (.ref it) (.ref D) ce) (compPost (model X.prog X.w) X.A X.xe use Qf (.ref D) s3.heap.objs.size) s4 := by
    refine compLoop_any (fun n s' => ∃ j H', Inv (blkH X s3 H3 scope ce fp) [] (wipe σ [i]) H' s' ∧ tn j s'.heap ∧ (∀ b ∈ fp, H' b = none) ∧ W j n H') ?_ m0 ⟨0, H3, J4, st4, n3, w0⟩
    rintro n s5 ⟨j, H5, I5, st5, n5, w5⟩
    rcases turn j n H5 w5 with ⟨stop, qq⟩ | ⟨go, Nx, hNx, step⟩
    · refine thnF (T.done (blkH X s3 H3 scope ce fp) rfl rfl rfl hot j [] s5 _ H5 (fun _ _ => False) I5 (stat I5 n5) st5 stop) fun r s6 ⟨hr, I6⟩ => ?_
      subst hr
      have I7 : Inv X pins σ H5 s6 := I3.call' (ch := fp) I6.os I6.base I6.hok I6.bare fun b hb => ⟨(f3 b hb).1.2.2.2.1, (f3 b hb).1.2.1, (f3 b hb).1.2.2.2.2.1, (f3 b hb).1.2.2.2.2.2⟩
      have nC : H5 s3.heap.objs.size = none := by
        have z : H5 ce.locals = none := I6.free
        rw [cL] at z; exact z
      obtain ⟨m, hn, _⟩ := I6.loc
      have hn : s6.heap.Ns ce.locals m := hn
      rw [cL] at hn
      exact hRR D s3.heap.objs.size s6 m H5 I7 qq hn (I3.fpOk (Nat.le_refl _) nC)
    · refine thnF (T.item (blkH X s3 H3 scope ce fp) rfl rfl rfl hot j [] s5 _ H5 (fun _ _ => False) I5 (stat I5 n5) st5 go) fun r s6 ⟨u, hr, h6⟩ => ?_
      subst hr
      refine thnF h6 fun _ s7 ⟨y, H7, I7, r7, y7, st7, n7⟩ => ?_
      have I8' := I7.pinned (stat I7 n7) (T.obj _ _ st7)
      refine thnF (pg.run _ s7 _ H7 y u _ I8' r7 (step y H7 y7)) fun _ s8 ⟨σ8, H8, I8, hw8, q8⟩ => ?_
      refine thnF (pt.run _ s8 σ8 H8 _ I8 q8) fun c s9 ⟨H9, I9, q9⟩ => ?_
      have turned : ∀ {s' : Shared} {H' : Hp}, Inv (blkH X s3 H3 scope ce fp) ([] ++ pinsAt fp s7.heap) σ8 H' s' → Nx H' → ∃ m, m < n ∧ ∃ j H', Inv (blkH X s3 H3 scope ce fp) [] (wipe σ [i]) H' s' ∧ tn j s'.heap ∧ (∀ b ∈ fp, H' b = none) ∧ W j m H' := fun {s' H'} I' nx => by
        obtain ⟨m', hm, w'⟩ := hNx _ nx
        have still : ∀ b ∈ fp, ∀ o, s7.heap.get? b = some o → s'.heap.get? b = some o ∧ H' b = none := fun b hb o e => by
          have z := I'.pin (b, o) (List.mem_append_right _ (List.mem_append_right _ (mem_pinsAt hb e)))
          exact ⟨z.1, z.2.1⟩
        have hl : (wipe σ [i]).length = σ8.length := by rw [← hw8, wipe_length]
        refine ⟨m', hm, j + 1, H', (I'.unpinned (pins := [])).weak hl (fun k v e => ?_), T.keep _ _ _ st7 fun b hb o e => (still b hb o e).1, fun b hb => ?_, w'⟩
        · rw [← hw8] at e
          exact (wipe_some e).1
        · obtain ⟨o, e, _⟩ := T.obj _ _ st7 b hb
          exact (still b hb o e).2
      cases c with
      | false =>
        rw [if_neg Bool.false_ne_true] at q9 ⊢
        exact turned I9 q9
      | true =>
        rw [if_pos rfl] at q9 ⊢
        refine thnF (pe.run _ s9 σ8 H9 _ I9 q9) fun z s10 ⟨yv, H10, I10, r10, acc, hD10, hz10, nx⟩ => ?_
        exact app_ok (X := blkH X s3 H3 scope ce fp) I10 hD10 hz10 r10 fun s11 I11 => turned I11 nx
  exact codeAny_compStart_list loop (T.self X.A 0 _ _ _ st4 loop)
/-- y = [..] on one line, y a local -/
theorem ps_setLcG {elt iter : Expr} {scope : Scope} {pos px py spos : Pos} {x y : Str} {i j : Nat} {ifs : List Expr} {wi : TI} {te : TE} {tt : TT} (hot : L2H.HotC X) (hN : X.N.Nodup) (hy : X.N[j]? = some y) (hyl : X.env.scope.names.lookup y = some .local)
    (hsw : swapsWith (.ListComp elt [⟨.Name x px, iter, ifs, 0⟩] scope pos) (some (.Name y py)) spos.line X.env = pure true) (hi : L2H.PIH X (.Name x px) iter wi) (ok : BlkOk X.N X.env.scope scope [(x, i)])
    (hg : ∀ (s : Shared) (H : Hp) (C : Addr) (cl : List (Str × Addr)) (fp : List Addr), PG (blkH X s H scope (compEnvC scope cl C X.env) fp) (.Name x px) (gName i))
    (ht : ∀ (s : Shared) (H : Hp) (C : Addr) (cl : List (Str × Addr)) (fp : List Addr), PTs (blkH X s H scope (compEnvC scope cl C X.env) fp) ifs tt)
    (he : ∀ (s : Shared) (H : Hp) (C : Addr) (cl : List (Str × Addr)) (fp : List Addr), PE (blkH X s H scope (compEnvC scope cl C X.env) fp) elt te)
    (hs : ∀ x, foldedSetIterable iter X.env x = pure x) : PS X (.Assign [.Name y py] (.ListComp elt [⟨.Name x px, iter, ifs, 0⟩] scope pos) spos) (tAsg (tLc wi (gName i) tt te [i]) (gName j)) := by
  refine ⟨fun pins s σ H D I h => ?_⟩
  rw [exec_Assign_Name_used _ _ _ _ hsw]
  refine wpAny_bind (wpAny_standAt (wpAny_bind ?_))
  have h2 : tLc wi (gName i) tt te [i] σ H (fun z H1 => gName j z σ H1 D.nx) := h
  refine wpAny_bind (thn (lc_coreG (Qf := fun _ s' => SP X pins D .next s') hot hN I hi ok hg ht he hs h2 fun L C s' m H' I' q hn f => ?_) fun _ s' hq => wpAny_pure (wpAny_pure hq))
  refine wpAny_assign_Name (store_ok2 (v := V.ref L) I' hN hy (.inl hyl) rfl (fun s2 I2 ⟨a, sb, ha⟩ => ?_) (.inr hyl))
  obtain ⟨g0, g1, g2, g3, g4, g5⟩ := f
  have ne : C ≠ a := ha.elim (fun z => by rw [z]; exact g1) fun z e => g4 y a z e.symm
  refine ⟨m, hn.sameBut sb ne, fun h3 sb3 => ?_⟩
  exact ⟨_, H', I2.turned (t' := s2.toks) (fun b o hb e => (sb3.2 b hb).trans e) g0 g1 g3 g4 g5, q⟩
theorem ds_setLcHR {G : Gx} {elt a c : Expr} {scope : Scope} {pos px p p2 py spos : Pos} {x y : Str} {wr : DT (List Sl)} {wt : DT Bool} {we : DT Sl} (j i : Nat) (hot : L2H.HotC X) (hN : X.N.Nodup) (hm : X.mg "range" = none) (ha : DA G X [a] wr) (ok : BlkOk X.N X.env.scope scope [(x, i)])
    (hg : ∀ (s : Shared) (H : Hp) (C : Addr) (cl : List (Str × Addr)) (fp : List Addr), PG (blkH X s H scope (compEnvC scope cl C X.env) fp) (.Name x px) (gName i))
    (ht : ∀ (s : Shared) (H : Hp) (C : Addr) (cl : List (Str × Addr)) (fp : List Addr), DB (Gn G) (blkH X s H scope (compEnvC scope cl C X.env) fp) c wt)
    (he : ∀ (s : Shared) (H : Hp) (C : Addr) (cl : List (Str × Addr)) (fp : List Addr), DE (Gn G) (blkH X s H scope (compEnvC scope cl C X.env) fp) elt we)
    (hy : X.N[j]? = some y := by rfl) (hyl : X.env.scope.names.lookup y = some .local := by rfl) (hsw : swapsWith (.ListComp elt [⟨.Name x px, .Call (.Name "range" p) [a] [] p2, [c], 0⟩] scope pos) (some (.Name y py)) spos.line X.env = pure true := by rfl) (hgl : Gl X "range" := by rfl) (hst : starEach [a] X.env = [(false, eval a X.env)] := by rfl)
    (hs : ∀ x, foldedSetIterable (.Call (.Name "range" p) [a] [] p2) X.env x = pure x := by intro _; rfl) : DSt G X (.Assign [.Name y py] (.ListComp elt [⟨.Name x px, .Call (.Name "range" p) [a] [] p2, [c], 0⟩] scope pos) spos) (wSet j (wLc i (wRng1 wr) wt we)) := by
  have me := (he s0 (fun _ => none) 0 [] []).mono
  have mt := (ht s0 (fun _ => none) 0 [] []).mono
  have mi := wRng1_mono ha.mono
  have mw : Mono (wLc i (wRng1 wr) wt we) := fun ρ Q Q' E E' hq he2 h => mi (fun items ρ1 ⟨x, k1, k2, k3⟩ => ⟨x, k1, k2, lcD_mono mt me (fun acc ρ2 k p => hq _ _ (k p)) _ _ _ k3⟩) he2 h
  refine ⟨fun _ _ _ _ _ q hd h => mw (fun x _ k => hd.nx _ k) h q, ps_weak (ps_setLcG hot hN hy hyl hsw (L2H.pi_range1H hgl hm ha.pa hst) ok hg (fun s H C cl fp => pts_cond (ht s H C cl fp)) (fun s H C cl fp => (he s H C cl fp).pe) hs) fun D σ H h => ?_⟩
  obtain ⟨ρ0, τ0, hA0, hw0⟩ := h
  refine lc_data (x := x) i mi (fun σ H R q => ?_) mt me ⟨ρ0, τ0, hA0, mw (fun x ρ1 k nx l v H1 A1 => k (by rw [List.length_set]; exact l) _ H1 (A1.store j)) (fun _ _ k => k) hw0⟩
  obtain ⟨ρ, τ, hA, hw⟩ := q
  refine ⟨ρ, τ, hA, ha.mono (fun xs ρ1 k nxs ln l1 vs H1 lv A1 => ?_) (fun _ _ k => k) hw⟩
  obtain ⟨B, h1, h2⟩ := A1.stills lv nxs
  split at k
  · rename_i j e
    rw [e] at h1
    cases h1 with
    | cons q1 q2 =>
      cases q1; cases q2
      exact ⟨j, rfl, k.1.1, k.1.2, k.2 l1 _ [] H1 (by rw [List.append_nil]; exact .mk' A1.len h2) srv_range⟩
  · exact k.elim
end
end DL
set_option Elab.async false
set_option maxRecDepth 100000
set_option maxHeartbeats 4000000
set_option linter.unusedVariables false
/-! data-level layer, part Mz: an error's own suite looks at it: fewer pins are told than there are -/
namespace DL
open PySem PySem.Spec PyProof.Rows L2 NdefX
theorem PinD.sub {l m : List (Addr × Obj)} (h : ∀ q ∈ l, q ∈ m) {d : D} (k : PinD l d) : PinD m d := by
  unfold PinD at k ⊢
  split at k
  · exact h _ k
  · trivial
section
variable {G : Gx} {X : Cx} {e : Expr} {w w' wa we : DT Sl} {f : D → Option Bool} {pn pm : List (Addr × Obj)}
end
end DL
set_option Elab.async false
set_option maxRecDepth 100000
set_option maxHeartbeats 4000000
set_option linter.unusedVariables false
/-! data-level layer, part Na: name = [comprehension over two names] on one line -/
namespace DL
open PySem PySem.Spec PyProof.Rows L2 NdefX
section
variable {G : Gx} {X : Cx} {elt iter c : Expr} {scope : Scope} {pos px py tpos pz spos : Pos} {x y z : Str} {kk : Nat} {wi : DT (List D)} {wt : DT Bool} {we : DT Sl}
end
end DL
set_option Elab.async false
set_option maxRecDepth 100000
set_option maxHeartbeats 4000000
set_option linter.unusedVariables false
/-! data-level layer, part Nb: a comprehension whose items are things of one's own -/
namespace DL
open PySem PySem.Spec PyProof.Rows L2 NdefX
def lcO (i : Nat) (wt : DT Bool) (we : DT Sl) (Q : List Addr → List D → DEnv → Prop) : List D → List Addr → List D → DEnv → Prop
  | [], F, acc, ρ => Q F acc ρ
  | d :: ds, F, acc, ρ => wt (ρ.set i (.sh d)) (fun b ρ2 => if b = true then we ρ2 (fun y ρ3 => acc.length < sizeLine ∧ okO y = true ∧ lcO i wt we Q ds (F ++ y.foot) (acc ++ [y.dat]) (ρ3.set i .un)) noE else lcO i wt we Q ds F acc (ρ2.set i .un)) noE
def wLcO (i : Nat) (wi : DT (List D)) (wt : DT Bool) (we : DT Sl) : DT Sl := fun ρ Q E => wi ρ (fun items ρ1 => ∃ x, ρ1[i]? = some x ∧ StillS x ∧ lcO i wt we (fun F acc ρ2 => ∀ p, Q (.dp (p :: F) (.lst acc)) (ρ2.set i x)) items [] [] (ρ1.set i .un)) E
theorem lcO_mono {i : Nat} {wt : DT Bool} {we : DT Sl} (ht : Mono wt) (he : Mono we) {Q Q' : List Addr → List D → DEnv → Prop} (hq : ∀ F acc ρ, Q F acc ρ → Q' F acc ρ) : ∀ (ds : List D) (F : List Addr) (acc : List D) (ρ : DEnv), lcO i wt we Q ds F acc ρ → lcO i wt we Q' ds F acc ρ
  | [], F, acc, ρ, h => hq _ _ _ h
  | d :: ds, F, acc, ρ, h => ht (fun b ρ2 k => by
      by_cases hb : b = true
      · rw [if_pos hb] at k ⊢
        exact he (fun y ρ3 k => ⟨k.1, k.2.1, lcO_mono ht he hq _ _ _ _ k.2.2⟩) (fun _ _ z => z) k
      · rw [if_neg hb] at k ⊢
        exact lcO_mono ht he hq _ _ _ _ k) (fun _ _ z => z) h
theorem Dprs.snoc {K : PySem.W.Frag} {so : Option Addr} {B H : Hp} {u : V} {d : D} {Fu : List Addr} (r : Dpr K so B H u d Fu) : ∀ {vs : List V} {ds : List D} {F : List Addr}, Dprs K so B H vs ds F → Dprs K so B H (vs ++ [u]) (ds ++ [d]) (F ++ Fu)
  | _, _, _, .nil => by
    have := Dprs.cons r .nil
    rw [List.append_nil] at this
    exact this
  | _, _, _, .cons h t => by
    rw [List.append_assoc]
    exact .cons h (Dprs.snoc r t)
section
variable {G : Gx} {X : Cx} {R₁ R₂ : Roots} {H B : Hp}
theorem Rel.asDp {v : V} {x : Sl} (h : Rel G (R₁ ++ (some v, x) :: R₂) H B) (o : okO x = true) : Rel G (R₁ ++ (some v, .dp x.foot x.dat) :: R₂) H B := by
  have fe : feet (R₁ ++ (some v, Sl.dp x.foot x.dat) :: R₂) = feet (R₁ ++ (some v, x) :: R₂) := by rw [feet_split, feet_split]; rfl
  refine ⟨h.lo, h.hi, h.fr, h.nw, fun r hr => ?_, by rw [fe]; exact h.nd, by rw [fe]; exact h.ap, h.st⟩
  rcases List.mem_append.mp hr with hr | hr
  · exact h.rep r (List.mem_append_left _ hr)
  · rcases List.mem_cons.mp hr with rfl | hr
    · exact okO_dpr (h.rep (some v, x) (List.mem_append_right _ List.mem_cons_self)) o
    · exact h.rep r (List.mem_append_right _ (List.mem_cons_of_mem _ hr))
theorem Rel.push {p : Addr} {F : List Addr} {acc : List D} {u : V} {z : Sl} (h : Rel G (R₁ ++ (some (.ref p), .dp (p :: F) (.lst acc)) :: (R₂ ++ [(some u, z)])) H B) (o : okO z = true) :
    ∃ ws, H p = some (.lst ws) ∧ ws.length = acc.length ∧ Rel G (R₁ ++ (some (.ref p), .dp (p :: (F ++ z.foot)) (.lst (acc ++ [z.dat]))) :: R₂) (upd H p (.lst (ws ++ [u]))) B := by
  have hmem : (some (V.ref p), Sl.dp (p :: F) (.lst acc)) ∈ R₁ ++ (some (.ref p), .dp (p :: F) (.lst acc)) :: (R₂ ++ [(some u, z)]) := List.mem_append_right _ List.mem_cons_self
  obtain ⟨a1, a2, a3⟩ := h.ap p (mem_feet hmem (by show p ∈ p :: F; exact List.mem_cons_self))
  have rp : Dpr G.K G.so B H (.ref p) (.lst acc) (p :: F) := h.rep _ hmem
  have rz : Dpr G.K G.so B H u z.dat z.foot := okO_dpr (h.rep (some u, z) (by simp)) o
  obtain ⟨ws, w1, w2⟩ : ∃ ws, H p = some (.lst ws) ∧ Dprs G.K G.so B H ws acc F := by
    generalize he : p :: F = F' at rp
    cases rp with
    | leaf _ n => cases n
    | lst h1 h2 => injection he with e1 e2; subst e2; exact ⟨_, h1, h2⟩
  have hnd := h.nd
  have f1 : feet (R₁ ++ (some (V.ref p), Sl.dp (p :: F) (.lst acc)) :: (R₂ ++ [(some u, z)])) = feet R₁ ++ ((p :: F) ++ (feet R₂ ++ z.foot)) := by rw [feet_split, feet_append, feet_one]; rfl
  have f2 : feet (R₁ ++ (some (V.ref p), Sl.dp (p :: (F ++ z.foot)) (.lst (acc ++ [z.dat]))) :: R₂) = feet R₁ ++ ((p :: (F ++ z.foot)) ++ feet R₂) := by rw [feet_split]; rfl
  have pm : (feet R₁ ++ ((p :: (F ++ z.foot)) ++ feet R₂)).Perm (feet R₁ ++ ((p :: F) ++ (feet R₂ ++ z.foot))) := by
    refine List.Perm.append_left _ ?_
    rw [List.cons_append, List.cons_append, List.append_assoc]
    exact List.Perm.cons _ (List.Perm.append_left _ List.perm_append_comm)
  rw [f1] at hnd
  obtain ⟨_, n2, n3⟩ := List.nodup_append.mp hnd
  have n4 := List.nodup_cons.mp (by simpa using n2 : (p :: (F ++ (feet R₂ ++ z.foot))).Nodup)
  have nF : p ∉ F := fun q => n4.1 (List.mem_append_left _ q)
  have nR2 : p ∉ feet R₂ := fun q => n4.1 (List.mem_append_right _ (List.mem_append_left _ q))
  have nZ : p ∉ z.foot := fun q => n4.1 (List.mem_append_right _ (List.mem_append_right _ q))
  have nR1 : p ∉ feet R₁ := fun q => n3 p q p (by simp) rfl
  have len : ws.length = acc.length := by
    have : ∀ {vs : List V} {ds : List D} {F : List Addr}, Dprs G.K G.so B H vs ds F → vs.length = ds.length := fun {vs} => by
      induction vs with
      | nil => intro ds F h; cases h; rfl
      | cons v vs ih => intro ds F h; cases h with | cons _ r => rw [List.length_cons, List.length_cons, ih r]
    exact this w2
  have keepD : ∀ {v : V} {d : D} {F' : List Addr}, p ∉ F' → Dpr G.K G.so B H v d F' → Dpr G.K G.so B (upd H p (.lst (ws ++ [u]))) v d F' := fun {v d F'} n k => k.mono (Same.refl _) fun b hb o e => by
    have nb : b ≠ p := fun y => by subst y; exact n hb
    rw [upd_ne nb]; exact e
  have keepS : ∀ {vs : List V} {ds : List D} {F' : List Addr}, p ∉ F' → Dprs G.K G.so B H vs ds F' → Dprs G.K G.so B (upd H p (.lst (ws ++ [u]))) vs ds F' := fun {vs ds F'} n k => k.mono (Same.refl _) fun b hb o e => by
    have nb : b ≠ p := fun y => by subst y; exact n hb
    rw [upd_ne nb]; exact e
  have other : ∀ {r : Option V × Sl}, RepS G.K G.so B H r.1 r.2 → p ∉ r.2.foot → RepS G.K G.so B (upd H p (.lst (ws ++ [u]))) r.1 r.2 := fun {r} hr hp =>
    hr.mono (Same.refl _) fun b hb o e => by
      have nb : b ≠ p := fun y => by subst y; exact hp hb
      rw [upd_ne nb]; exact e
  refine ⟨ws, w1, len, h.lo, fun a o e => ?_, fun a o e n => ?_, h.nw, fun r hr => ?_, by rw [f2]; exact pm.nodup_iff.mpr hnd, fun q hq => h.ap q (by rw [f1]; rw [f2] at hq; exact pm.mem_iff.mp hq), fun s e => ?_⟩
  · rw [upd_ne (ne_of_none e a1)]; exact h.hi a o e
  · rw [upd_ne (ne_of_none e a2)]; exact h.fr a o e n
  · rcases List.mem_append.mp hr with hr | hr
    · exact other (h.rep r (List.mem_append_left _ hr)) fun y => nR1 (mem_feet hr y)
    · rcases List.mem_cons.mp hr with rfl | hr
      · exact Dpr.lst upd_same (Dprs.snoc (keepD nZ rz) (keepS nF w2))
      · exact other (h.rep r (List.mem_append_right _ (List.mem_cons_of_mem _ (List.mem_append_left _ hr)))) fun y => nR2 (mem_feet hr y)
  · obtain ⟨s1, s2⟩ := h.st s e
    have ns : s ≠ p := fun y => a3 (by rw [e, y])
    exact ⟨s1, s2.mono (Same.refl _) (upd_ne ns)⟩
theorem lcO_data {x : Str} {wi : DT (List D)} {wt : DT Bool} {we : DT Sl} {ti : TI} (i : Nat) (mi : Mono wi) (qi : ∀ σ H R, tDI G wi σ H R → ti σ H R) (mt : Mono wt) (me : Mono we) {σ : L2.St} {H : Hp} {Q : VK} (h : tD G (wLcO i wi wt we) σ H Q) :
    tLc ti (gName i) (tDB (G.wish fun _ _ _ _ => False) wt) (tD (G.wish fun _ _ _ _ => False) we) ([(x, i)].map (·.2)) σ H Q := by
  refine qi σ H _ ?_
  obtain ⟨ρ, τ, hA, hw⟩ := h
  refine ⟨ρ, τ, hA, mi (fun items ρ1 k l1 J t H1 A1 hJ => ?_) (fun _ _ e => e) hw⟩
  obtain ⟨y, hy, hst, k⟩ := k
  intro D hD
  have hw0 : wipe σ ([(x, i)].map (·.2)) = σ.set i none := rfl
  obtain ⟨xr, hxr0, hback0⟩ := slot_out i A1 hy hst
  have hxr : At G (σ.set i none) (ρ1.set i .un) (τ ++ xr ++ t) H1 := hxr0.perm (by
    rw [List.append_assoc, List.append_assoc]
    exact List.Perm.append_left _ List.perm_append_comm)
  have hback : ∀ (ρ2 : DEnv) (u : Roots) (H2 : Hp), At G (σ.set i none) ρ2 (τ ++ xr ++ u) H2 → At G σ (ρ2.set i y) (τ ++ u) H2 := fun ρ2 u H2 A => hback0 ρ2 (τ ++ u) H2 (A.perm (by
    rw [List.append_assoc, List.append_assoc]
    exact List.Perm.append_left _ List.perm_append_comm))
  obtain ⟨lw, B0, r0⟩ := hxr
  have A0 := (At.addOw lw r0 hD .nil).perm (τ' := τ ++ xr ++ [(some (.ref D), .ow D [])] ++ t) (by
    rw [List.append_assoc, List.append_assoc (τ ++ xr)]
    exact List.Perm.append_left _ List.perm_append_comm)
  have A00 : At G (σ.set i none) (ρ1.set i .un) (τ ++ xr ++ [(some (.ref D), .dp (D :: []) (.lst []))] ++ t) (upd H1 D (.lst [])) := by
    obtain ⟨l0, B, rb⟩ := A0
    have e4 : (σ.set i none).zip (ρ1.set i .un) ++ (τ ++ xr ++ [(some (V.ref D), Sl.ow D [])] ++ t) = ((σ.set i none).zip (ρ1.set i .un) ++ (τ ++ xr)) ++ (some (V.ref D), Sl.ow D []) :: t := by simp
    rw [e4] at rb
    have r2 := rb.asDp rfl
    refine ⟨l0, B, ?_⟩
    have e5 : (σ.set i none).zip (ρ1.set i .un) ++ (τ ++ xr ++ [(some (V.ref D), Sl.dp (D :: []) (.lst []))] ++ t) = ((σ.set i none).zip (ρ1.set i .un) ++ (τ ++ xr)) ++ (some (V.ref D), Sl.dp (D :: []) (.lst [])) :: t := by simp
    rw [e5]
    exact r2
  refine ⟨fun n m Hn => m = items.length - n ∧ n ≤ items.length ∧ ∃ ρn F acc, ρn.length = ρ1.length ∧ At G (σ.set i none) ρn (τ ++ xr ++ [(some (.ref D), .dp (D :: F) (.lst acc))] ++ t) Hn ∧
    lcO i wt we (fun F acc ρ2 => ∀ p, (fun x ρ' => x ≠ Sl.un → ρ'.length = ρ.length → ∀ v H', At G σ ρ' (τ ++ [(some v, x)]) H' → Q v H') (.dp (p :: F) (.lst acc)) (ρ2.set i y)) (items.drop n) F acc ρn, ⟨items.length, rfl, Nat.zero_le _, _, [], [], by rw [List.length_set], A00, k⟩, ?_⟩
  rintro n m Hn ⟨rfl, hn, ρn, F, acc, ln, An, kn⟩
  obtain ⟨Bn, rn⟩ := An.rel
  have rn2 := rn
  rw [← List.append_assoc] at rn2
  obtain ⟨go, stop⟩ := hJ n _ Hn Bn rn2
  by_cases hlt : n < items.length
  · right
    obtain ⟨g1, g2⟩ := go items[n] (List.getElem?_eq_getElem hlt)
    refine ⟨g1, fun H' => ∃ ρn F acc, ρn.length = ρ1.length ∧ At G (σ.set i none) ρn (τ ++ xr ++ [(some (.ref D), .dp (D :: F) (.lst acc))] ++ t) H' ∧
      lcO i wt we (fun F acc ρ2 => ∀ p, (fun x ρ' => x ≠ Sl.un → ρ'.length = ρ.length → ∀ v H', At G σ ρ' (τ ++ [(some v, x)]) H' → Q v H') (.dp (p :: F) (.lst acc)) (ρ2.set i y)) (items.drop (n + 1)) F acc ρn,
      fun H' ⟨ρ', F', acc', l', A', k'⟩ => ⟨items.length - (n + 1), by omega, rfl, hlt, ρ', F', acc', l', A', k'⟩, fun v H' hyl => ?_⟩
    obtain ⟨B2, r2, hx⟩ := g2 v H' hyl
    rw [List.drop_eq_getElem_cons hlt] at kn
    rw [hw0]
    show wipe ((σ.set i none).set i (some v)) _ = _ ∧ _
    refine ⟨by show ((σ.set i none).set i (some v)).set i none = σ.set i none; rw [List.set_set, List.set_set], ?_⟩
    have A2 := At.store i (At.addSh (τ := τ ++ xr ++ [(some (.ref D), .dp (D :: F) (.lst acc))] ++ t) An.len (by rw [← List.append_assoc]; exact r2) hx)
    refine ⟨ρn.set i (.sh items[n]), _, A2.wish, mt (fun b ρ2 k2 l2 H2 A3 => ?_) (fun _ _ z => z.elim) kn⟩
    have A3 := A3.unwish
    show if b = true then _ else _
    by_cases hb : b = true
    · rw [if_pos hb] at k2 ⊢
      refine ⟨ρ2, _, A3.wish, me (fun z ρ3 k3 nz l3 u H3 A4 => ?_) (fun _ _ z => z.elim) k2⟩
      have A4 := A4.unwish
      obtain ⟨ks, ko, k3⟩ := k3
      obtain ⟨l4, B4, r4⟩ := A4
      have e4 : ((σ.set i none).set i (some v)).zip ρ3 ++ (τ ++ xr ++ [(some (V.ref D), Sl.dp (D :: F) (.lst acc))] ++ t ++ [(some u, z)]) = (((σ.set i none).set i (some v)).zip ρ3 ++ (τ ++ xr)) ++ (some (V.ref D), Sl.dp (D :: F) (.lst acc)) :: (t ++ [(some u, z)]) := by simp
      rw [e4] at r4
      obtain ⟨ws, w1, w2, r5⟩ := r4.push ko
      refine ⟨ws, w1, by rw [w2]; exact ks, ρ3.set i .un, F ++ z.foot, acc ++ [z.dat], ?_, ?_, k3⟩
      · rw [List.length_set]
        have := l3.trans l2
        rw [List.length_set] at this
        omega
      · have A5 : At G ((σ.set i none).set i (some v)) ρ3 (τ ++ xr ++ [(some (V.ref D), Sl.dp (D :: (F ++ z.foot)) (.lst (acc ++ [z.dat])))] ++ t) (upd H3 D (.lst (ws ++ [u]))) := ⟨l4, B4, by
          have e5 : ((σ.set i none).set i (some v)).zip ρ3 ++ (τ ++ xr ++ [(some (V.ref D), Sl.dp (D :: (F ++ z.foot)) (.lst (acc ++ [z.dat])))] ++ t) = (((σ.set i none).set i (some v)).zip ρ3 ++ (τ ++ xr)) ++ (some (V.ref D), Sl.dp (D :: (F ++ z.foot)) (.lst (acc ++ [z.dat]))) :: t := by simp
          rw [e5]
          exact r5⟩
        have A6 := A5.wipe i none
        rw [List.set_set, List.set_set] at A6
        exact A6
    · rw [if_neg hb] at k2 ⊢
      refine ⟨ρ2.set i .un, F, acc, ?_, ?_, k2⟩
      · rw [List.length_set]
        rw [List.length_set] at l2
        omega
      · have A6 := A3.wipe i none
        rw [List.set_set, List.set_set] at A6
        exact A6
  · left
    have e : n = items.length := by omega
    subst e
    rw [List.drop_length] at kn
    refine ⟨stop (Nat.le_refl _), kn D (fun z => by cases z) ?_ (.ref D) Hn (hback ρn _ Hn An.drop)⟩
    rw [List.length_set]
    omega
end
section
variable {G : Gx} {X : Cx} {elt iter c : Expr} {scope : Scope} {pos px : Pos} {x : Str} {wi : DT (List D)} {wt : DT Bool} {we : DT Sl}
theorem de_lcO (i : Nat) (hc : X.calm = true) (hN : X.N.Nodup) (hi : DI G X (.Name x px) iter wi) (ok : BlkOk X.N X.env.scope scope [(x, i)])
    (hg : ∀ (s : Shared) (H : Hp) (C : Addr) (cl : List (Str × Addr)) (fp : List Addr), PG (Xb X scope s H C cl fp) (.Name x px) (gName i))
    (he : ∀ (s : Shared) (H : Hp) (C : Addr) (cl : List (Str × Addr)) (fp : List Addr), DE (Gn G) (Xb X scope s H C cl fp) elt we)
    (hs : ∀ x, foldedSetIterable iter X.env x = pure x := by intro _; rfl) : DE G X (.ListComp elt [⟨.Name x px, iter, [], 0⟩] scope pos) (wLcO i wi wTrue we) := by
  obtain ⟨ti, hti, qi⟩ := hi.pi
  have me := (he s0 (fun _ => none) 0 [] []).mono
  exact ⟨fun ρ Q Q' E E' hq he2 h => hi.mono (fun items ρ1 ⟨x, k1, k2, k3⟩ => ⟨x, k1, k2, lcO_mono wTrue_mono me (fun F acc ρ2 k p => hq _ _ (k p)) _ _ _ _ k3⟩) he2 h,
    pe_weak (pe_lc hc hN hti ok hg (fun _ _ _ _ _ => pts_true) (fun s H C cl fp => (he s H C cl fp).pe) hs) fun σ H Q h => lcO_data (x := x) i hi.mono qi wTrue_mono me h⟩
end
end DL
set_option Elab.async false
set_option maxRecDepth 100000
set_option maxHeartbeats 4000000
set_option linter.unusedVariables false
/-! data-level layer, part Nc: max(xs, default=d), min(xs, default=d); x[k].append(e), x a list of lists, all one's own -/
namespace DL
open PySem PySem.Spec PyProof.Rows L2 NdefX
def roMaxD (d : Int) : AO := fun ds Q => match ds with
  | [.lst ds] => ∃ ns : List Int, ds = ns.map D.int ∧ (ns = [] → Q (.sh (.int d))) ∧ ∀ m, m ∈ ns → (∀ y, y ∈ ns → y ≤ m) → Q (.sh (.int m))
  | _ => False
def roMinD (d : Int) : AO := fun ds Q => match ds with
  | [.lst ds] => ∃ ns : List Int, ds = ns.map D.int ∧ (ns = [] → Q (.sh (.int d))) ∧ ∀ m, m ∈ ns → (∀ y, y ∈ ns → m ≤ y) → Q (.sh (.int m))
  | _ => False
abbrev wMaxD (d : Int) := wFun (roMaxD d)
abbrev wMinD (d : Int) := wFun (roMinD d)
section
variable {G : Gx} {X : Cx} {a b : Expr} {wr : DT (List Sl)} {p pos kp : Pos} {d : Int}
end
/-! ### x[k].append(e) -/
mutual
theorem Dpr.noF {K : PySem.W.Frag} {so : Option Addr} {B H : Hp} : ∀ {v : V} {d : D} {F : List Addr}, Dpr K so B H v d F → NoL d = true → F = []
  | _, _, _, .leaf _ _, _ => rfl
  | _, _, _, .lst _ _, n => by cases n
  | _, _, _, .tup _ r, n => Dprs.noF r n
theorem Dprs.noF {K : PySem.W.Frag} {so : Option Addr} {B H : Hp} : ∀ {vs : List V} {ds : List D} {F : List Addr}, Dprs K so B H vs ds F → NoLs ds = true → F = []
  | _, _, _, .nil, _ => rfl
  | _, _, _, .cons h r, n => by
    have n2 : (NoL _ && NoLs _) = true := n
    rw [Bool.and_eq_true] at n2
    rw [Dpr.noF h n2.1, Dprs.noF r n2.2]
    rfl
end
mutual
theorem Dpr.fl {K : PySem.W.Frag} {so : Option Addr} {B H B' H' : Hp} : ∀ {v v' : V} {d : D} {F F' : List Addr}, Dpr K so B H v d F → Dpr K so B' H' v' d F' → F.length = F'.length
  | _, _, _, _, _, .leaf _ n, k => by rw [k.noF n]
  | _, _, _, _, _, .lst h r, k => by
    cases k with
    | leaf _ n => cases n
    | lst h2 r2 => rw [List.length_cons, List.length_cons, Dprs.fl r r2]
  | _, _, _, _, _, .tup h r, k => by
    cases k with
    | leaf _ n => rw [Dprs.noF r n]
    | tup h2 r2 => exact Dprs.fl r r2
theorem Dprs.fl {K : PySem.W.Frag} {so : Option Addr} {B H B' H' : Hp} : ∀ {vs vs' : List V} {ds : List D} {F F' : List Addr}, Dprs K so B H vs ds F → Dprs K so B' H' vs' ds F' → F.length = F'.length
  | _, _, _, _, _, .nil, k => by cases k; rfl
  | _, _, _, _, _, .cons h r, k => by
    cases k with
    | cons h2 r2 => rw [List.length_append, List.length_append, Dpr.fl h h2, Dprs.fl r r2]
end
theorem Dprs.place {K : PySem.W.Frag} {so : Option Addr} {B H B' H' : Hp} {q : Addr} {xs : List D} : ∀ {j : Nat} {vs vs' : List V} {ds : List D} {F : List Addr}, Dprs K so B H vs ds F → Dprs K so B' H' vs' ds F → ds[j]? = some (.lst xs) → vs[j]? = some (.ref q) → vs'[j]? = some (.ref q)
  | j, _, _, _, _, .nil, k, e, _ => by cases e
  | j, _, vs', _, _, .cons (d := d) (F := Fh) (G := Gt) h r, k, e, g => by
    generalize hF : Fh ++ Gt = F at k
    cases k with
    | @cons v2 vs2 _ _ F2 G2 h2 r2 =>
      obtain ⟨e1, e2⟩ := List.append_inj hF (h.fl h2)
      subst e1
      subst e2
      cases j with
      | zero =>
        have e : some d = some (.lst xs) := e
        cases e
        have g : some _ = some (V.ref q) := g
        cases g
        show some v2 = _
        cases h with
        | leaf _ n => cases n
        | lst a b =>
          generalize hq : _ :: _ = Fx at h2
          cases h2 with
          | leaf _ n => cases n
          | lst a2 b2 => injection hq with e3 e4; rw [e3]
      | succ j => exact Dprs.place (j := j) r r2 e g
def wAppIx (i : Nat) (wi we : DT Sl) : DS := fun D ρ E => match ρ[i]? with
  | some (.dp _ (.lst _)) => wi ρ (fun y ρ1 => ∃ F ds k j xs, ρ1[i]? = some (.dp F (.lst ds)) ∧ y.dat = .int k ∧ ixN ds.length k = some j ∧ ds[j]? = some (.lst xs) ∧
      we ρ1 (fun z ρ2 => ρ2[i]? = some (.dp F (.lst ds)) ∧ xs.length < sizeLine ∧ NoL z.dat = true ∧ D.nx (ρ2.set i (.dp F (.lst (ds.set j (.lst (xs ++ [z.dat]))))))) E) E
  | _ => False
section
variable {G : Gx} {X : Cx} {e b : Expr} {pos : Pos} {wi we : DT Sl}
end
section
variable {G : Gx} {X : Cx} {elt iter : Expr} {scope : Scope} {pos px py spos : Pos} {x y : Str} {wi : DT (List D)} {we : DT Sl}
theorem ds_setLcO (j i : Nat) (hc : X.calm = true) (hN : X.N.Nodup) (hi : DI G X (.Name x px) iter wi) (ok : BlkOk X.N X.env.scope scope [(x, i)])
    (hg : ∀ (s : Shared) (H : Hp) (C : Addr) (cl : List (Str × Addr)) (fp : List Addr), PG (Xb X scope s H C cl fp) (.Name x px) (gName i))
    (he : ∀ (s : Shared) (H : Hp) (C : Addr) (cl : List (Str × Addr)) (fp : List Addr), DE (Gn G) (Xb X scope s H C cl fp) elt we)
    (hy : X.N[j]? = some y := by rfl) (hyl : X.env.scope.names.lookup y = some .local := by rfl) (hsw : swapsWith (.ListComp elt [⟨.Name x px, iter, [], 0⟩] scope pos) (some (.Name y py)) spos.line X.env = pure true := by rfl)
    (hs : ∀ x, foldedSetIterable iter X.env x = pure x := by intro _; rfl) : DSt G X (.Assign [.Name y py] (.ListComp elt [⟨.Name x px, iter, [], 0⟩] scope pos) spos) (wSet j (wLcO i wi wTrue we)) := by
  obtain ⟨ti, hti, qi⟩ := hi.pi
  have me := (he s0 (fun _ => none) 0 [] []).mono
  have mw : Mono (wLcO i wi wTrue we) := fun ρ Q Q' E E' hq he2 h => hi.mono (fun items ρ1 ⟨x, k1, k2, k3⟩ => ⟨x, k1, k2, lcO_mono wTrue_mono me (fun F acc ρ2 k p => hq _ _ (k p)) _ _ _ _ k3⟩) he2 h
  refine ⟨fun _ _ _ _ _ q hd h => mw (fun x _ k => hd.nx _ k) h q, ps_weak (ps_setLc (tt := tDB (G.wish fun _ _ _ _ => False) wTrue) hc hN hy hyl hsw hti ok hg (fun _ _ _ _ _ => pts_true) (fun s H C cl fp => (he s H C cl fp).pe) hs) fun D σ H h => ?_⟩
  obtain ⟨ρ, τ, hA, hw⟩ := h
  refine lcO_data (x := x) i hi.mono qi wTrue_mono me ⟨ρ, τ, hA, mw (fun x ρ1 k nx l v H1 A1 => ?_) (fun _ _ k => k) hw⟩
  exact k (by rw [List.length_set]; exact l) _ H1 (A1.store j)
end
end DL
set_option Elab.async false
set_option maxRecDepth 100000
set_option maxHeartbeats 4000000
set_option linter.unusedVariables false
/-! data-level layer, part Nd: count and index in a list of flat things that stays as it is; an item of a list of one's own, taken out -/
namespace DL
open PySem PySem.Spec PyProof.Rows L2 NdefX
def idxV (x : V) (xs : List V) : Nat := xs.findIdx fun y => eqV y x
section
variable {G : Gx} {X : Cx} {a e : Expr} {wa we : DT Sl} {apos pos : Pos}
def wIndexF (wa we : DT Sl) : DT Sl := fun ρ Q E => wa ρ (fun x ρ1 => (∃ ds, x.dat = .lst ds) ∧ we ρ1 (fun y ρ2 => match x.dat with
  | .lst ds => ∃ k ys, flatOf y.dat = some k ∧ flatsOf ds = some ys ∧ idxV k ys < ys.length ∧ Q (.sh (.int (idxV k ys : Nat))) ρ2
  | _ => False) E) E
def wCountF (wa we : DT Sl) : DT Sl := fun ρ Q E => wa ρ (fun x ρ1 => (∃ ds, x.dat = .lst ds) ∧ we ρ1 (fun y ρ2 => match x.dat with
  | .lst ds => ∃ k ys, flatOf y.dat = some k ∧ flatsOf ds = some ys ∧ Q (.sh (.int (cntV k ys : Nat))) ρ2
  | _ => False) E) E
end
/-! ### x[j] of a list of one's own, taken out -/
def wMvIxL (i j : Nat) : DT Sl := fun ρ Q _ => match ρ[i]? with
  | some (.dp _ (.lst ds)) => ∃ d, ds[j]? = some d ∧ ∀ F, Q (.dp F d) (ρ.set i .un)
  | _ => False
section
variable {G : Gx} {X : Cx} {pos : Pos} {b : Expr}
end
end DL
set_option Elab.async false
set_option maxRecDepth 100000
set_option maxHeartbeats 4000000
set_option linter.unusedVariables false
/-! data-level layer, part Ne: for x in t[1], t a tuple of one's own that stays one's own (a leaf and a list of leaves) -/
namespace DL
open PySem PySem.Spec PyProof.Rows L2 NdefX
section
variable {G : Gx} {X : Cx} {pos : Pos}
end
end DL
set_option Elab.async false
set_option maxRecDepth 100000
set_option maxHeartbeats 4000000
set_option linter.unusedVariables false
/-! data-level layer, part Nf: any(xs) of a list of bools -/
namespace DL
open PySem PySem.Spec PyProof.Rows L2 NdefX
def roAny : AO := fun ds Q => match ds with
  | [.lst ds] => ∃ bs : List Bool, ds = bs.map D.bl ∧ Q (.sh (.bl (bs.any id)))
  | _ => False
section
variable {G : Gx} {X : Cx} {a : Expr} {wr : DT (List Sl)} {p pos : Pos}
end
end DL
set_option Elab.async false
set_option maxRecDepth 100000
set_option maxHeartbeats 4000000
set_option linter.unusedVariables false
/-! data-level layer, part Ng: tuple(..) of a list of one's own that owns its items, {k: v} of constants, == of two dicts -/
namespace DL
open PySem PySem.Spec PyProof.Rows L2 NdefX
/-- tuple(e), e a list of one's own -/
def wTupO (we : DT Sl) : DT Sl := fun ρ Q E => we ρ (fun x ρ1 => okO x = true ∧ ∃ ds, x.dat = .lst ds ∧ ∀ F, Q (.dp F (.tup ds)) ρ1) E
def wDicC (ks : List Key) (ds : List D) : DT Sl := fun ρ Q _ => Q (.sh (.dic ks ds)) ρ
/-- == where the two may be dicts, then the same -/
def roEqS : RO2 := fun d e Q => roEq false d e Q ∨ ∃ ks ds, d = .dic ks ds ∧ e = .dic ks ds ∧ okDc ks ds = true ∧ Q (.sh (.bl true))
theorem roEqS_mono : MonoO roEqS := fun _ _ _ _ hq h => h.elim (fun k => .inl (roEq_mono hq k)) fun ⟨ks, ds, a, b, c, k⟩ => .inr ⟨ks, ds, a, b, c, hq _ k⟩
theorem lfD_v {K : PySem.W.Frag} {so : Option Addr} {B : Hp} {d : D} {v u : V} (h : lfD d = true) (r : Rp K so B v d) (r2 : Rp K so B u d) : v = u ∧ flatB v = true := by
  cases r with
  | non => cases r2; exact ⟨rfl, rfl⟩
  | bl b => cases r2; exact ⟨rfl, rfl⟩
  | int i => cases r2; exact ⟨rfl, rfl⟩
  | str x => cases r2; exact ⟨rfl, rfl⟩
  | _ => cases h
theorem lfD_vs {K : PySem.W.Frag} {so : Option Addr} {B : Hp} : ∀ {ds : List D} {vs us : List V}, ds.all lfD = true → Rps K so B vs ds → Rps K so B us ds → vs = us ∧ ∀ v ∈ vs, flatB v = true
  | [], _, _, _, .nil, .nil => ⟨rfl, fun _ h => by cases h⟩
  | d :: ds, _, _, h, .cons r1 r2, .cons q1 q2 => by
    rw [List.all_cons, Bool.and_eq_true] at h
    obtain ⟨e1, f1⟩ := lfD_v h.1 r1 q1
    obtain ⟨e2, f2⟩ := lfD_vs h.2 r2 q2
    refine ⟨by rw [e1, e2], fun v hv => ?_⟩
    rcases List.mem_cons.mp hv with rfl | hv
    · exact f1
    · exact f2 v hv
theorem valV_zip : ∀ {ks : List Key} {vs : List V}, ndK ks = true → ∀ p ∈ ks.zip vs, valV (ks.zip vs) p.1 = some p.2
  | [], _, _, p, h => by cases h
  | _ :: _, [], _, p, h => by cases h
  | k :: ks, v :: vs, n, p, h => by
    have n2 : (!(ks.any fun j => decide (j = k)) && ndK ks) = true := n
    rw [Bool.and_eq_true, Bool.not_eq_true'] at n2
    rw [List.zip_cons_cons] at h ⊢
    rcases List.mem_cons.mp h with rfl | h
    · exact valV_pos rfl
    · have hk : p.1 ∈ ks := (List.of_mem_zip h).1
      have ne : ¬ k = p.1 := fun e => by
        have : (ks.any fun j => decide (j = k)) = true := List.any_eq_true.mpr ⟨p.1, hk, decide_eq_true e.symm⟩
        rw [this] at n2; cases n2.1
      rw [valV_neg ne]
      exact valV_zip n2.2 p h
def isDic : D → Option Bool | .dic _ _ => some true | .int _ => some false | .bl _ => some false | .non => some false | .str _ => some false | .lst _ => some false | .tup _ => some false | _ => none
theorem isDic_ok {K : PySem.W.Frag} : ∀ d b, isDic d = some b → Isi K d (.type "dict") b
  | .int _, _, h => by cases h; exact isi_ty (t := "int") rfl (by decide +kernel)
  | .bl _, _, h => by cases h; exact isi_ty (t := "bool") rfl (by decide +kernel)
  | .non, _, h => by cases h; exact isi_ty (t := "NoneType") rfl (by decide +kernel)
  | .str _, _, h => by cases h; exact isi_ty (t := "str") rfl (by decide +kernel)
  | .lst _, _, h => by cases h; exact isi_ty (t := "list") rfl (by decide +kernel)
  | .tup _, _, h => by cases h; exact isi_ty (t := "tuple") rfl (by decide +kernel)
  | .dic _ _, _, h => by cases h; exact isi_ty (t := "dict") rfl (by decide +kernel)
  | .ins _ _ _, _, h => by cases h
  | .exc _ _ _ _, _, h => by cases h
  | .sto, _, h => by cases h
  | .scr _, _, h => by cases h
section
variable {G : Gx} {X : Cx} {a b e : Expr} {wa wb we : DT Sl} {p pos : Pos}
theorem od_eqS : OpD G (fun x y H Q => rEqD G.K x y H Q ∨ rEqDA x y H Q) roEqS := by
  rintro σ ρ τ x y d e H B Q l hr hx hy (h | ⟨ks, ds, rfl, rfl, ok, q⟩)
  · exact .inl (od_eq σ ρ τ x y d e H B Q l hr hx hy h)
  · right
    obtain ⟨o1, o2, o3, o4⟩ := okDc_lf ok
    cases hx with
    | @dic p1 _ vs _ h1 l1 r1 =>
      cases hy with
      | @dic p2 _ us _ h2 l2 r2 =>
        obtain ⟨e1, f1⟩ := lfD_vs o3 r1 r2
        subst e1
        exact ⟨_, _, _, _, rfl, rfl, hr.hi _ _ h1, hr.hi _ _ h2, rfl, fun q hq => ⟨valV_zip o2 q hq, f1 _ (List.of_mem_zip hq).2⟩, q (fun z => by cases z) _ _ (At.addSh l hr (.bl _))⟩
theorem op_eqS (hu : X.A.units + 64 < cLine) : OpR X (compareOp .Eq) (fun x y H Q => rEqD X.K x y H Q ∨ rEqDA x y H Q) := by
  intro pins s σ H x y v u Q I rx ry h
  rcases h with h | h
  · exact op_eqD hu pins s σ H x y v u Q I rx ry h
  · exact op_eq_dictA (by omega) pins s σ H x y v u Q I rx ry h
theorem de_eqS (hu : X.A.units + 64 < cLine) (hK : G.K = X.K) (ha : DE G X a wa) (hb : DE G X b wb) : DE G X (.Compare a [.Eq] [b] pos) (wOp roEqS wa wb) := de_cmp (op_eqS hu) (hK ▸ od_eqS) roEqS_mono ha hb (nomark _)
theorem upd_upd {H : Hp} {p : Addr} {o o' : HO} : upd (upd H p o) p o' = upd H p o' := by
  funext a
  by_cases h : a = p
  · subst h; rw [upd_same, upd_same]
  · rw [upd_ne h, upd_ne h, upd_ne h]
theorem de_dicII {i j : Int} {k1 k2 : Nat} {q1 q2 : Pos} : DE G X (.Dict [some (.Constant (.int i) k1 q1)] [.Constant (.int j) k2 q2] pos) (wDicC [.inl i] [.int j]) := by
  refine ⟨fun _ _ _ _ _ hq _ h => hq _ _ h, pe_weak (pe_disp (pps_cons pe_int pe_int pps_nil) rfl rfl (by simp) (by show 1 ≤ 15; omega)) fun σ H Q hw => ?_⟩
  obtain ⟨ρ, τ, ⟨l, B, hr⟩, hw⟩ := hw
  intro p hp
  refine ⟨upd_same, [(.inl i, .int j)], rfl, by show 1 ≤ 15; omega, ?_⟩
  rw [upd_upd]
  exact hw (fun z => by cases z) rfl _ _ (At.addNew l hr hp fun B' e1 e2 => .dic (ks := [.inl i]) (vs := [.int j]) e2 rfl (.cons (.int _) .nil))
theorem de_tupO (hK : G.K = X.K) (hm : X.mg "tuple" = none) (ha : DE G X e we) (hg : Gl X "tuple" := by rfl) (he : starEach [e] X.env = (false, eval e X.env) :: starEach [] X.env := by rfl) : DE G X (.Call (.Name "tuple" p) [e] [] pos) (wTupO we) := by
  refine ⟨fun _ _ _ _ _ hq he q => ha.mono (fun x ρ1 ⟨k1, ds, k2, k3⟩ => ⟨k1, ds, k2, fun F => hq _ _ (k3 F)⟩) he q, pe_weak (pe_callTy call_tuple_of hg hm (by decide +kernel) (pa_cons ha.pe pa_nil he) (he := he)) fun σ H Q h => ?_⟩
  obtain ⟨ρ, τ, hA, hw⟩ := h
  refine ⟨ρ, τ, hA, ha.mono (fun x ρ1 k nx l v H1 A1 => ?_) (fun _ _ e => e) hw⟩
  obtain ⟨k1, ds, k2, k3⟩ := k
  have A1' := A1
  obtain ⟨B, hr⟩ := A1.rel
  rw [← List.append_assoc] at hr
  have t : Dpr G.K G.so B H1 v x.dat x.foot := okO_dpr (hr.rep (some v, x) (List.mem_append_right _ List.mem_cons_self)) k1
  rw [k2] at t
  obtain ⟨q, vs, F, rfl, fe, hq, hd⟩ : ∃ q vs F, v = .ref q ∧ x.foot = q :: F ∧ H1 q = some (.lst vs) ∧ Dprs G.K G.so B H1 vs ds F := by
    generalize x.foot = F0 at t
    cases t with
    | leaf _ n => cases n
    | lst h1 h2 => exact ⟨_, _, _, rfl, rfl, h1, h2⟩
  refine ⟨q, vs, rfl, .inl ⟨.inl (.inl hq), fun p hp => k3 F (fun z => by cases z) l _ _ ?_⟩⟩
  have h1 := hr.newB (o := .tup vs) hp
  have hn := hr.nd
  rw [feet_append, feet_one, fe] at hn
  obtain ⟨n1, n2, n3⟩ := List.nodup_append.mp hn
  have ht : σ.zip ρ1 ++ τ ++ temps [V.ref q] [x] = σ.zip ρ1 ++ τ ++ [(some (V.ref q), x)] := rfl
  refine At.gather (xs := [x]) (vs := [V.ref q]) A1'.len (by rw [ht]; exact h1) (List.nodup_cons.mp n2).2 (fun q2 hq2 => .inl ?_) rfl (.tup (.inl (.inl upd_same)) (hd.mono (same_upd (hr.free hp)) fun q hq o e => ?_))
  · show q2 ∈ [x].flatMap Sl.foot
    rw [List.flatMap_cons, List.flatMap_nil, List.append_nil, fe]
    exact List.mem_cons_of_mem _ hq2
  · rw [upd_ne (ne_of_none e hp)]; exact e
end
/-! ### lent: an answer that owns what it holds -/
def notL : HO → Bool | .lst _ => false | _ => true
def joinN (B B1 : Hp) : Hp := fun a => match B a with
  | some o => some o
  | none => match B1 a with
    | some o => if notL o = true then some o else none
    | none => none
section
variable {K : PySem.W.Frag} {so : Option Addr} {B1 B2 H : Hp}
theorem sqT_notL (h : ∀ a o, B1 a = some o → notL o = true → B2 a = some o) {a : Addr} {xs : List V} (q : SqT K B1 a xs) : SqT K B2 a xs := by
  rcases q with (q | ⟨o, q⟩) | q
  · exact .inl (.inl (h _ _ q rfl))
  · exact .inl (.inr ⟨o, h _ _ q rfl⟩)
  · exact .inr q
mutual
theorem noL_rp (h : ∀ a o, B1 a = some o → notL o = true → B2 a = some o) : ∀ {v : V} {d : D}, Rp K none B1 v d → NoL d = true → Rp K so B2 v d
  | _, _, .non, _ => .non
  | _, _, .bl b, _ => .bl b
  | _, _, .int i, _ => .int i
  | _, _, .str x, _ => .str x
  | _, _, .lst _ _, n => by cases n
  | _, _, .tup q r, n => .tup (sqT_notL h q) (noL_rps h r n)
  | _, _, .dic e l r, n => .dic (h _ _ e rfl) l (noL_rps h r n)
  | _, _, .ins e l r, n => .ins (h _ _ e rfl) l (noL_rps h r n)
  | _, _, .exn _ _, n => by cases n
  | _, _, .exa _ _ _ _, n => by cases n
  | _, _, .sto _, n => by cases n
  | _, _, .scr _, n => by cases n
theorem noL_rps (h : ∀ a o, B1 a = some o → notL o = true → B2 a = some o) : ∀ {vs : List V} {ds : List D}, Rps K none B1 vs ds → NoLs ds = true → Rps K so B2 vs ds
  | _, _, .nil, _ => .nil
  | _, _, .cons (d := d) (ds := ds) r t, n => by
    have n2 : (NoL d && NoLs ds) = true := n
    rw [Bool.and_eq_true] at n2
    exact .cons (noL_rp h r n2.1) (noL_rps h t n2.2)
end
mutual
theorem noL_dpr (h : ∀ a o, B1 a = some o → notL o = true → B2 a = some o) : ∀ {v : V} {d : D} {F : List Addr}, Dpr K none B1 H v d F → Dpr K so B2 H v d F
  | _, _, _, .leaf r n => .leaf (noL_rp h r n) n
  | _, _, _, .lst e r => .lst e (noL_dprs h r)
  | _, _, _, .tup q r => .tup (sqT_notL h q) (noL_dprs h r)
theorem noL_dprs (h : ∀ a o, B1 a = some o → notL o = true → B2 a = some o) : ∀ {vs : List V} {ds : List D} {F : List Addr}, Dprs K none B1 H vs ds F → Dprs K so B2 H vs ds F
  | _, _, _, .nil => .nil
  | _, _, _, .cons r t => .cons (noL_dpr h r) (noL_dprs h t)
end
end
def wLendID (m : List Bool) (we : DT Sl) : DT Sl := fun ρ Q _ => ∃ n, lendOkI n m ρ ∧ we (lendE m ρ) (fun z _ => okO z = true ∧ ∀ F, Q (.dp F z.dat) ρ) (fun _ _ => False)
theorem wLendID_mono {m : List Bool} {we : DT Sl} (h : Mono we) : Mono (wLendID m we) := fun ρ _ _ _ _ hq _ ⟨n, h1, h2⟩ => ⟨n, h1, h (fun z _ k => ⟨k.1, fun F => hq _ _ (k.2 F)⟩) (fun _ _ z => z) h2⟩
section
variable {G : Gx} {X : Cx} {e : Expr} {we : DT Sl}
theorem de_lendID (m : List Bool) (he : ∀ B H, DE ⟨G.K, none, B, H, fun _ _ _ _ => False⟩ X e we) : DE G X e (wLendID m we) := by
  refine ⟨wLendID_mono (he (fun _ => none) (fun _ => none)).mono, ⟨fun pins s σ H Q I h => ?_⟩⟩
  obtain ⟨ρ, τ, ⟨l, B, hr0⟩, n, hok, hw⟩ := h
  obtain ⟨ρf, B', l2, r2, f3, f4⟩ := frz_all ((List.range ρ.length).filter fun i => m[i]? == some true) (ρ := ρ) (τ := τ) ⟨l, B, hr0⟩ fun i hi => by
    rw [List.mem_filter] at hi
    have hil := List.mem_range.mp hi.1
    refine ⟨ρ[i], List.getElem?_eq_getElem hil, ?_⟩
    exact (lendOkI_get hok (beq_iff_eq.mp hi.2) (List.getElem?_eq_getElem hil)).1
  have rE : Rel ⟨G.K, none, B', H, fun _ _ _ _ => False⟩ (σ.zip (lendE m ρ) ++ []) H B' := by
    refine ⟨Same.refl _, r2.hi, fun a o e _ => e, fun a xs e _ => (by show B' a ≠ none; rw [e]; exact Option.some_ne_none _), fun r hr => ?_, ?_, ?_, fun s z => by cases z⟩
    · rw [List.append_nil] at hr
      obtain ⟨i, hi⟩ := List.getElem?_of_mem hr
      rw [List.getElem?_zip_eq_some] at hi
      obtain ⟨q1, q2⟩ := r
      simp only [] at hi
      rcases lendE_get hi.2 with rfl | ⟨x, e1, rfl, e3⟩
      · show RepS _ _ _ _ q1 .un
        cases q1 <;> trivial
      · have hil : i < ρ.length := (List.getElem?_eq_some_iff.mp e1).1
        have g := f4 i (by rw [List.mem_filter]; exact ⟨List.mem_range.mpr hil, beq_iff_eq.mpr e3⟩) x e1
        obtain ⟨L, R, v, z1, z2, z3⟩ := zip_split l2 g
        have rp := r2.rep (v, .sh x.dat) (by rw [z2]; simp)
        rw [hi.1] at z1
        cases z1
        cases q1 with
        | none => exact rp
        | some u => exact plI_rp (lendOkI_get hok e3 e1).2 rp
    · rw [List.append_nil, feet_still fun y hy => ?_]
      · exact List.nodup_nil
      · obtain ⟨i, hi⟩ := List.getElem?_of_mem hy
        rcases lendE_get hi with rfl | ⟨x, _, rfl, _⟩
        · exact .inl rfl
        · exact .inr ⟨_, rfl⟩
    · rw [List.append_nil, feet_still fun y hy => ?_]
      · intro p hp; cases hp
      · obtain ⟨i, hi⟩ := List.getElem?_of_mem hy
        rcases lendE_get hi with rfl | ⟨x, _, rfl, _⟩
        · exact .inl rfl
        · exact .inr ⟨_, rfl⟩
  refine (he B' H).pe.run pins s σ H Q I ⟨lendE m ρ, [], ⟨by rw [lendE_len]; exact l, B', rE⟩, (he B' H).mono (fun z ρ1 k nz l1 v H1 A1 => ?_) (fun _ _ z => z.elim) hw⟩
  obtain ⟨ko, kq⟩ := k
  obtain ⟨B1, h2⟩ := A1.rel
  have sH : ∀ a o, H a = some o → H1 a = some o := fun a o e => h2.fr a o e (fun z => by cases z)
  have rw1 : Dpr G.K none B1 H1 v z.dat z.foot := okO_dpr (h2.rep (some v, z) (by simp)) ko
  have ap : ∀ p ∈ z.foot, B1 p = none ∧ H p = none := fun p hp => by
    have q := h2.ap p (mem_feet (r := (some v, z)) (by simp) hp)
    exact ⟨q.1, q.2.1⟩
  have sB : Same B H1 := fun a o e => sH a o (hr0.hi a o e)
  have j1 : ∀ a o, B a = some o → joinN B B1 a = some o := fun a o e => by unfold joinN; rw [e]
  have j2 : ∀ a o, B1 a = some o → notL o = true → joinN B B1 a = some o := fun a o e ne => by
    unfold joinN
    cases hb : B a with
    | some o' =>
      have q1 := sB a o' hb
      have q2 := h2.hi a o e
      rw [q1] at q2
      exact q2
    | none => simp only [e]; rw [if_pos ne]
  have j3 : ∀ a o, joinN B B1 a = some o → B a = some o ∨ (B1 a = some o ∧ notL o = true) := fun a o e => by
    unfold joinN at e
    cases hb : B a with
    | some o' => rw [hb] at e; exact .inl e
    | none =>
      rw [hb] at e
      simp only at e
      cases h1 : B1 a with
      | none => rw [h1] at e; cases e
      | some o' =>
        rw [h1] at e
        simp only at e
        by_cases c : notL o' = true
        · rw [if_pos c] at e; cases e; exact .inr ⟨rfl, c⟩
        · rw [if_neg c] at e; cases e
  have nol : ∀ a xs, H1 a = some (.lst xs) → B a = none → joinN B B1 a = none := fun a xs e hb => by
    cases hj : joinN B B1 a with
    | none => rfl
    | some o =>
      rcases j3 a o hj with z | ⟨z, c⟩
      · rw [hb] at z; cases z
      · have := h2.hi a o z
        rw [e] at this; cases this; cases c
  have ft : ∀ p ∈ feet (σ.zip ρ ++ τ), ∃ xs, H p = some (.lst xs) := fun p hp => hr0.foot_some hp
  have key : Rel G (σ.zip ρ ++ (τ ++ [(some v, .dp z.foot z.dat)])) H1 (joinN B B1) := by
    rw [← List.append_assoc]
    refine ⟨fun a o e => j1 a o (hr0.lo a o e), fun a o e => ?_, fun a o e ne => sH a o (hr0.fr a o e ne), fun a o e ne => ?_, fun r hr => ?_, ?_, fun p hp => ?_, fun s e => ?_⟩
    · rcases j3 a o e with q | ⟨q, _⟩
      · exact sB a o q
      · exact h2.hi a o q
    · rcases j3 a o e with q | ⟨q, c⟩
      · exact hr0.nw a o q ne
      · have hne : H a ≠ none := by
          by_cases hs : G.so = some a
          · obtain ⟨xs, hx⟩ := hr0.store_some hs
            rw [hx]; exact Option.some_ne_none _
          · cases h0 : G.H0 a with
            | none => exact absurd h0 ne
            | some o0 => rw [hr0.fr a o0 h0 hs]; exact Option.some_ne_none _
        have b' := h2.nw a o q hne
        cases hb : B' a with
        | none => exact absurd hb b'
        | some o' => exact r2.nw a o' hb ne
    · rcases List.mem_append.mp hr with hr | hr
      · exact (hr0.rep r hr).mono j1 fun p _ o e => sH p o e
      · cases List.mem_singleton.mp hr
        exact noL_dpr j2 rw1
    · rw [feet_append, feet_one]
      refine List.nodup_append.mpr ⟨hr0.nd, ?_, fun p hp q hq e => ?_⟩
      · have hn := h2.nd
        rw [feet_append] at hn
        have n2 := (List.nodup_append.mp hn).2.1
        rw [List.nil_append, feet_one] at n2
        exact n2
      · subst e
        obtain ⟨xs, hx⟩ := ft p hp
        rw [(ap p hq).2] at hx; cases hx
    · rw [feet_append, feet_one] at hp
      rcases List.mem_append.mp hp with hp | hp
      · obtain ⟨a1, a2, a3⟩ := hr0.ap p hp
        obtain ⟨xs, hx⟩ := ft p hp
        exact ⟨nol p xs (sH _ _ hx) a1, a2, a3⟩
      · obtain ⟨b1, b2⟩ := ap p hp
        have bn : B p = none := by
          cases hb : B p with
          | none => rfl
          | some o => rw [hr0.hi p o hb] at b2; cases b2
        have sn : G.so ≠ some p := fun e => by
          obtain ⟨xs, hx⟩ := hr0.store_some e
          rw [hx] at b2; cases b2
        refine ⟨?_, ?_, sn⟩
        · cases hj : joinN B B1 p with
          | none => rfl
          | some o =>
            rcases j3 p o hj with q | ⟨q, _⟩
            · rw [bn] at q; cases q
            · rw [b1] at q; cases q
        · cases h0 : G.H0 p with
          | none => rfl
          | some o => rw [hr0.fr p o h0 sn] at b2; cases b2
    · obtain ⟨s1, s2⟩ := hr0.st s e
      obtain ⟨ys, hy⟩ := hr0.store_some e
      exact ⟨nol s ys (sH _ _ hy) s1, s2.mono j1 ((sH s _ hy).trans hy.symm)⟩
  exact kq z.foot (fun z => by cases z) rfl v H1 ⟨l, _, key⟩
end
end DL
set_option Elab.async false
set_option maxRecDepth 100000
set_option maxHeartbeats 1000000
set_option linter.unusedVariables false
/-! promises of the laws that hand models about: the same, a table for its model, what a refusal is -/
namespace C
open PySem PySem.Spec PyProof.Rows L2 NdefX DL
def mdl (w : Nat) (l : List Nat) : D := .tup [.int w, .lst (nD l)]
/-- data that equals itself, dicts of single values among it -/
def plD : Nat → D → Bool
  | 0, _ => false
  | _ + 1, .non => true
  | _ + 1, .bl _ => true
  | _ + 1, .int _ => true
  | _ + 1, .str z => PyData.canLay0 (.str z)
  | _ + 1, .dic ks ds => okDc ks ds
  | n + 1, .lst l => decide (l.length ≤ 1000) && l.all (plD n)
  | n + 1, .tup l => decide (l.length ≤ 1000) && l.all (plD n)
  | _ + 1, _ => false
def bitD : D → Bool
  | .int i => decide (0 ≤ i) && decide (i ≤ 1)
  | _ => false
def natD : D → Nat
  | .int i => i.toNat
  | _ => 0
/-- a table told by its width and its bits -/
def isM : D → Bool
  | .tup [.int w, .lst l] => decide (0 ≤ w) && (decide (w ≤ 6) && (decide (l.length = 2 ^ w.toNat) && l.all bitD))
  | _ => false
def tbM : D → D
  | .tup [.int w, .lst l] => tb w.toNat (l.map natD)
  | d => d
mutual
/-- the same with tables for what tells of tables -/
def asT : D → D
  | .lst l => .lst (asTs l)
  | .tup l => if isM (.tup l) = true then tbM (.tup l) else .tup (asTs l)
  | d => d
def asTs : List D → List D
  | [] => []
  | d :: r => asT d :: asTs r
end
def W_law_sameD (n : Nat) : DW1 := fun ds Q _ => ∃ d, ds = [d, d] ∧ plD n d = true ∧ Q (.sh (.bl true))
def W_law_is_tableD : DW1 := fun ds Q _ => ∃ w l, ds = [tb w l, .int w, .lst (nD l)] ∧ TB w l ∧ Q (.sh (.bl true))
def W_law_is_model : DW1 := fun ds Q _ => ∃ d n, ds = [d] ∧ plD n d = true ∧ Q (.sh (.bl (isM d)))
def W_law_as_table (n : Nat) : DW1 := fun ds Q _ => ∃ d, ds = [d] ∧ plD n d = true ∧ ∀ F, Q (.dp F (asT d))
theorem mono_law_as_table (n : Nat) : MonoW (W_law_as_table n) := fun _ _ _ _ _ hq _ ⟨d, a, b, c⟩ => ⟨d, a, b, fun F => hq _ (c F)⟩
def W_law_meets (n : Nat) : DW1 := fun ds Q _ => ∃ d, ds = [asT d, d] ∧ plD n d = true ∧ Q (.sh (.bl true))
def cls3 (c : Str) : Prop := c = "WrongKind" ∨ c = "WrongSize" ∨ c = "OutOfRange"
def W_law_refused (pn : Addr × Obj) : DW1 := WG (fun ds => ∃ c a, ds = [.exc c (some a) pn.1 pn.2] ∧ cls3 c) (fun ds z => ∃ c a, ds = [.exc c (some a) pn.1 pn.2] ∧ z = .sh (.tup [.str c, a])) noX
theorem len_law_refused (pn : Addr × Obj) : ∀ ds Q E, W_law_refused pn ds Q E → ds.length = 1 := fun _ _ _ ⟨⟨_, _, e, _⟩, _⟩ => by rw [e]; rfl
theorem never_law_sameD : ∀ ds Q E, W_law_sameD 0 ds Q E → False := fun _ _ _ ⟨_, _, h, _⟩ => by cases h
theorem never_law_as_table : ∀ ds Q E, W_law_as_table 0 ds Q E → False := fun _ _ _ ⟨_, _, h, _⟩ => by cases h
theorem never_law_meets : ∀ ds Q E, W_law_meets 0 ds Q E → False := fun _ _ _ ⟨_, _, h, _⟩ => by cases h
theorem mono_law_sameD (n : Nat) : MonoW (W_law_sameD n) := by
  intro ds Q Q' E E' hq he h
  repeat (first | exact hq _ h | exact he _ h | exact ends_mono hq he h | exact (fun p => hq _ (h p)) | exact (fun p F => hq _ (h p F)) | (obtain ⟨a, h⟩ := h; refine ⟨a, ?_⟩))
theorem len_law_sameD (n : Nat) : ∀ ds Q E, W_law_sameD n ds Q E → ds.length = 2 := by
  intro ds Q E h
  repeat (first | (have e := h.1; subst e; rfl) | (obtain ⟨_, h⟩ := h))
theorem mono_law_is_tableD : MonoW W_law_is_tableD := by
  intro ds Q Q' E E' hq he h
  repeat (first | exact hq _ h | exact he _ h | exact ends_mono hq he h | exact (fun p => hq _ (h p)) | exact (fun p F => hq _ (h p F)) | (obtain ⟨a, h⟩ := h; refine ⟨a, ?_⟩))
theorem len_law_is_tableD : ∀ ds Q E, W_law_is_tableD ds Q E → ds.length = 3 := by
  intro ds Q E h
  repeat (first | (have e := h.1; subst e; rfl) | (obtain ⟨_, h⟩ := h))
theorem mono_law_is_model : MonoW W_law_is_model := by
  intro ds Q Q' E E' hq he h
  repeat (first | exact hq _ h | exact he _ h | exact ends_mono hq he h | exact (fun p => hq _ (h p)) | exact (fun p F => hq _ (h p F)) | (obtain ⟨a, h⟩ := h; refine ⟨a, ?_⟩))
theorem len_law_is_model : ∀ ds Q E, W_law_is_model ds Q E → ds.length = 1 := by
  intro ds Q E h
  repeat (first | (have e := h.1; subst e; rfl) | (obtain ⟨_, h⟩ := h))
theorem len_law_as_table (n : Nat) : ∀ ds Q E, W_law_as_table n ds Q E → ds.length = 1 := by
  intro ds Q E h
  repeat (first | (have e := h.1; subst e; rfl) | (obtain ⟨_, h⟩ := h))
theorem mono_law_meets (n : Nat) : MonoW (W_law_meets n) := by
  intro ds Q Q' E E' hq he h
  repeat (first | exact hq _ h | exact he _ h | exact ends_mono hq he h | exact (fun p => hq _ (h p)) | exact (fun p F => hq _ (h p F)) | (obtain ⟨a, h⟩ := h; refine ⟨a, ?_⟩))
theorem len_law_meets (n : Nat) : ∀ ds Q E, W_law_meets n ds Q E → ds.length = 2 := by
  intro ds Q E h
  repeat (first | (have e := h.1; subst e; rfl) | (obtain ⟨_, h⟩ := h))
theorem mono_law_refused (pn : Addr × Obj) : MonoW (W_law_refused pn) := WG_mono
end C
set_option Elab.async false
set_option maxRecDepth 100000
set_option maxHeartbeats 1000000
set_option linter.unusedVariables false
/-! promises of fields (rows of ints as long as a power of two), answered by lists of one's own -/
namespace C
open PySem PySem.Spec PyProof.Rows L2 NdefX DL
def rowI (d : D) (r : List Int) : Prop := d = .lst (iD r) ∨ d = .tup (iD r)
def fitK (zf : Str) (x : D) : Option Kd := (isJ x).map fun b => if b = true then .ok .non else .error (Er1 "WrongKind" zf)
def f_fieldL (zf : Str) (l : List D) : Option Kd := if l.length ∈ ([1, 2, 4, 8, 16, 32, 64] : List Nat) then itemsK (fitK zf) l else some (.error (Er1 "WrongSize" zf))
/-- what is wrong with a field -/
def f_field (zf : Str) (d : D) : Option Kd := match d with
  | .lst l => f_fieldL zf l
  | .tup l => f_fieldL zf l
  | d => (isJ d).map fun _ => .error (Er1 "WrongKind" zf)
inductive FldR (zf : Str) (g : Nat → List Int → D) : D → Kd → Prop
  | bad {d : D} {e : Er} : f_field zf d = some (.error e) → FldR zf g d (.error e)
  | good {d : D} {w : Nat} {r : List Int} : rowI d r → r.length = 2 ^ w → w ≤ 6 → FldR zf g d (.ok (g w r))
def fltE : Kd → Str
  | .ok _ => ""
  | .error e => e.c
/-- the two ways out, an answer being a list of one's own -/
def endsO (r : Kd) (Q : Sl → Prop) (E : Er → Prop) : Prop := (∀ v, r = .ok (.lst v) → ∀ p, Q (.ow p v)) ∧ ∀ e, r = .error e → E e
theorem endsO_mono {r : Kd} {Q Q' : Sl → Prop} {E E' : Er → Prop} (hq : ∀ x, Q x → Q' x) (he : ∀ e, E e → E' e) (h : endsO r Q E) : endsO r Q' E' := ⟨fun v e p => hq _ (h.1 v e p), fun e k => he _ (h.2 e k)⟩
def W_check_field : DW1 := fun ds Q E => ∃ (zf : Str) (d : D) (r : Kd), ds = [d, .str zf] ∧ zf.length ≤ 1000 ∧ f_field zf d = some r ∧ ends r Q E
def W_steppedO : DW1 := fun ds Q _ => ∃ (w p : Nat) (r : List Int), ds = [.lst (iD r), .int (p : Nat)] ∧ r.length = 2 ^ w ∧ p < w ∧ w ≤ 6 ∧ ∀ q, Q (.ow q (iD (bfly p r)))
theorem mono_steppedO : MonoW W_steppedO := fun _ _ _ _ _ hq _ ⟨w, p, r, a, b, c, d, h⟩ => ⟨w, p, r, a, b, c, d, fun q => hq _ (h q)⟩
def W_all_stepsO : DW1 := fun ds Q _ => ∃ (w : Nat) (d : D) (r : List Int), ds = [d] ∧ rowI d r ∧ r.length = 2 ^ w ∧ w ≤ 6 ∧ ∀ q, Q (.ow q (iD (bflys r w)))
theorem mono_all_stepsO : MonoW W_all_stepsO := fun _ _ _ _ _ hq _ ⟨w, d, r, a, b, c, e, h⟩ => ⟨w, d, r, a, b, c, e, fun q => hq _ (h q)⟩
def W_quick_field : DW1 := fun ds Q E => ∃ (d : D) (r : Kd), ds = [d] ∧ FldR "field" (fun w r => .lst (iD (bflys r w))) d r ∧ endsO r Q E
theorem mono_quick_field : MonoW W_quick_field := fun _ _ _ _ _ hq he ⟨d, r, a, b, c⟩ => ⟨d, r, a, b, endsO_mono hq he c⟩
def W_law_field_fault : DW1 := fun ds Q _ => ∃ (zf : Str) (g : D) (r : Kd), ds = [g] ∧ f_field zf g = some r ∧ Q (.sh (.str (fltE r)))
def W_law_row_faultN : DW1 := fun ds Q _ => ∃ (zf : Str) (g : D) (r : Kd), ds = [g, .int 1, .int 64, .non, .non] ∧ f_field zf g = some r ∧ (∀ l, g = .lst l ∨ g = .tup l → l.length ∈ ([1, 2, 4, 8, 16, 32, 64] : List Nat)) ∧ Q (.sh (.str (fltE r)))
def W_law_plain : DW1 := fun ds Q _ => ∃ (w : Nat) (d : D) (r : List Int), ds = [d] ∧ rowI d r ∧ r.length = 2 ^ w ∧ w ≤ 6 ∧ (∀ x ∈ r, Bd 5000 x) ∧ Q (.sh (.lst (iD (bflys r w))))
def oddN (d : D) : Prop := plD 2 d = true ∧ asT d = d ∧ isM d = false ∧ ∀ i, d = .int i → Bd 300 i
def W_law_odd_numberN : DW1 := fun ds Q _ => ds = [.sto, .non, .non] ∧ ∀ d, oddN d → Q (.sh d)
theorem mono_law_odd_numberN : MonoW W_law_odd_numberN := fun _ _ _ _ _ hq _ ⟨a, b⟩ => ⟨a, fun d h => hq _ (b d h)⟩
theorem len_law_odd_numberN : ∀ ds Q E, W_law_odd_numberN ds Q E → ds.length = 3 := fun _ _ _ ⟨e, _⟩ => by rw [e]; rfl
/-- what may be handed about: a model, or what holds none -/
def GivX (g : D) : Prop := plD 3 g = true ∧ (isM g = true ∨ asT g = g) ∧ ∀ q, rowI g q → ∀ i ∈ q, Bd 300 i
def W_law_odd_fieldX : DW1 := fun ds Q _ => ∃ (w : Nat) (r : List Int), ds = [.sto, .lst (iD r)] ∧ r.length = 2 ^ w ∧ w ≤ 6 ∧ (∀ x ∈ r, Bd 300 x) ∧ ∀ g, GivX g → Q (.sh g)
theorem mono_law_odd_fieldX : MonoW W_law_odd_fieldX := fun _ _ _ _ _ hq _ ⟨w, r, a, b, c, d, h⟩ => ⟨w, r, a, b, c, d, fun g k => hq _ (h g k)⟩
theorem mono_check_field : MonoW W_check_field := by
  intro ds Q Q' E E' hq he h
  repeat (first | exact hq _ h | exact he _ h | exact ends_mono hq he h | exact (fun p => hq _ (h p)) | exact (fun p F => hq _ (h p F)) | (obtain ⟨a, h⟩ := h; refine ⟨a, ?_⟩))
theorem len_check_field : ∀ ds Q E, W_check_field ds Q E → ds.length = 2 := by
  intro ds Q E h
  repeat (first | (have e := h.1; subst e; rfl) | (obtain ⟨_, h⟩ := h))
theorem len_steppedO : ∀ ds Q E, W_steppedO ds Q E → ds.length = 2 := by
  intro ds Q E h
  repeat (first | (have e := h.1; subst e; rfl) | (obtain ⟨_, h⟩ := h))
theorem len_all_stepsO : ∀ ds Q E, W_all_stepsO ds Q E → ds.length = 1 := by
  intro ds Q E h
  repeat (first | (have e := h.1; subst e; rfl) | (obtain ⟨_, h⟩ := h))
theorem len_quick_field : ∀ ds Q E, W_quick_field ds Q E → ds.length = 1 := by
  intro ds Q E h
  repeat (first | (have e := h.1; subst e; rfl) | (obtain ⟨_, h⟩ := h))
theorem mono_law_field_fault : MonoW W_law_field_fault := by
  intro ds Q Q' E E' hq he h
  repeat (first | exact hq _ h | exact he _ h | exact ends_mono hq he h | exact (fun p => hq _ (h p)) | exact (fun p F => hq _ (h p F)) | (obtain ⟨a, h⟩ := h; refine ⟨a, ?_⟩))
theorem len_law_field_fault : ∀ ds Q E, W_law_field_fault ds Q E → ds.length = 1 := by
  intro ds Q E h
  repeat (first | (have e := h.1; subst e; rfl) | (obtain ⟨_, h⟩ := h))
theorem mono_law_row_faultN : MonoW W_law_row_faultN := by
  intro ds Q Q' E E' hq he h
  repeat (first | exact hq _ h | exact he _ h | exact ends_mono hq he h | exact (fun p => hq _ (h p)) | exact (fun p F => hq _ (h p F)) | (obtain ⟨a, h⟩ := h; refine ⟨a, ?_⟩))
theorem len_law_row_faultN : ∀ ds Q E, W_law_row_faultN ds Q E → ds.length = 5 := by
  intro ds Q E h
  repeat (first | (have e := h.1; subst e; rfl) | (obtain ⟨_, h⟩ := h))
theorem mono_law_plain : MonoW W_law_plain := by
  intro ds Q Q' E E' hq he h
  repeat (first | exact hq _ h | exact he _ h | exact ends_mono hq he h | exact (fun p => hq _ (h p)) | exact (fun p F => hq _ (h p F)) | (obtain ⟨a, h⟩ := h; refine ⟨a, ?_⟩))
theorem len_law_plain : ∀ ds Q E, W_law_plain ds Q E → ds.length = 1 := by
  intro ds Q E h
  repeat (first | (have e := h.1; subst e; rfl) | (obtain ⟨_, h⟩ := h))
theorem len_law_odd_fieldX : ∀ ds Q E, W_law_odd_fieldX ds Q E → ds.length = 2 := by
  intro ds Q E h
  repeat (first | (have e := h.1; subst e; rfl) | (obtain ⟨_, h⟩ := h))
end C
set_option maxRecDepth 100000
/-! D-level programs, printed by gen_defs.py -/
namespace C
open PySem PySem.Spec PyProof.Rows L2 NdefX DL
end C
set_option maxRecDepth 100000
/-! D-level programs, printed by gen_defs.py -/
namespace C
open PySem PySem.Spec PyProof.Rows L2 NdefX DL
end C
set_option Elab.async false
set_option maxRecDepth 100000
set_option maxHeartbeats 1000000
set_option linter.unusedVariables false
namespace C
open PySem PySem.Spec PyProof.Rows L2 NdefX DL
local macro_rules | `(tactic| walk_at "dl") => `(tactic| simp only [wSeq, wLc, wTrue, wRaise0, wRaiseL, wSplit, wJoin, wFs, wSlS1, wSlS2, wAug, wItemsC, wEnum, pStr, fStr, pIntS, fIntS, roInS, orF, NoExc, dgTwo, wItemsT, wSlS0, wIsdig, roMulS, roInL, wIndexS, wSum, pSum, fSum, lk_wide, lk_held, okT_T, wFld, wGet, wMeth, wOwn2, wOwnI, wOwn1, wOwnLen, wOwnStr, wRevT, wZip, wItemsLT, wTupD, wLstD, wMv, isOwn, insOf, iStm, iFld, iEnd, pSumT, fSumT, wNever, tb, eq_self, exists_eq_left', Option.some.injEq, lackN, wTruth, wMinL, roMinL, wEnum, wSlTo, wSlFrom, wPopAt, wLenO, wApp, fillD, List.getD_cons_zero, List.getD_cons_succ, dgPt, ptD, ptsD, wUnp, wLcP, outs, ptIx, ptsIx, stillS_un, stillS_sh, backs, ends,  wIf, wNext, wBreak, wCont, wRet, wRetN, wDrop, wSet, wTest, wAndB, wOrB, wNotB, wIsi, wVar, wC, wOp, wRaise, wCall, wCons, wNil, wFun, wPar, wTup, wNeg, wUn, wIfE, wAndV, wOrV, wNotV, wUnp2, wLst, wIxO, wLenO, wSetIx, wAppend, wDic0, wFor, wItemsL, wItemsS, wRng1, wRng2, wListRev, dgName, roAdd, roI, roI0, roB, roIx, roIsN, roF, roL, datas, List.map_cons, List.map_nil, entry, List.length_cons, List.length_nil, List.cons_append, List.nil_append, List.replicate, List.replicate_succ, List.replicate_zero, Nat.reduceAdd, Nat.reduceSub, Nat.zero_add,
  List.getElem?_cons_zero, List.getElem?_cons_succ, List.set_cons_zero, List.set_cons_succ, dat_sh, dat_ow, dat_dp, DL.isInt, DL.isBool, DL.isStr, DL.isLst, DL.isTup, PinD, Bool.not_true, Bool.not_false, Bool.false_eq_true, if_true, if_false, true_and, and_true, OkAD, bodyEnds, pInt1, pInt2, fAbs, fMin, fMax, pIntOf, fIntOf, pLen, fLen, pSeq, fSeq, reduceIte, decide_eq_true_eq, ite_true, ite_false, Bool.and_eq_true, Bool.not_eq_true', roEq_int, Bool.true_xor, Bool.false_xor, Bool.true_eq_false])
/-! ### loops that leave the names as they are -/
/-! ### comprehensions over names of any shape -/
theorem isJ_ins {c : Str} {fs : List Str} {ds : List D} {b : Bool} (h : isJ (.ins c fs ds) = some b) : okI c = true ∧ b = false := by
  have h2 : (if okI c = true then some false else none) = some b := h
  by_cases hc : okI c = true
  · rw [if_pos hc] at h2; cases h2; exact ⟨hc, rfl⟩
  · rw [if_neg hc] at h2; cases h2
theorem isJ_int {d : D} (h : isJ d = some true) : ∃ i, d = .int i := by
  cases d with
  | int i => exact ⟨i, rfl⟩
  | ins c fs ds => have := isJ_ins h; cases this.2
  | _ => cases h
theorem at2 {a b c : D} {l : List D} {P : D → Prop} : (∃ x, atD (a :: b :: c :: l) 2 = some x ∧ P x) = P c := propext ⟨fun ⟨x, e, h⟩ => by
  have e2 : atD (a :: b :: c :: l) 2 = some c := by
    unfold atD atI ixN
    rw [if_pos (by decide), if_pos (by simp only [List.length_cons]; omega)]
    rfl
  rw [e2] at e; cases e; exact h, fun h => ⟨c, by
    unfold atD atI ixN
    rw [if_pos (by decide), if_pos (by simp only [List.length_cons]; omega)]
    rfl, h⟩⟩
theorem call_firstM {l : List D} {d : D} {Q : Sl → Prop} {E : Er → Prop} (h : firstF l = some d) (q : Q (.sh d)) : W_law_first_fault [.lst l] Q E := WF_ok (d := d) (by simp only []; rw [h]; rfl) q
/-! ### mending -/
end C
set_option Elab.async false
set_option maxRecDepth 100000
set_option maxHeartbeats 1000000
set_option linter.unusedVariables false
namespace C
open PySem PySem.Spec PyProof.Rows L2 NdefX DL
local macro_rules | `(tactic| walk_at "dl") => `(tactic| simp only [wSeq, wLc, wTrue, wRaise0, wRaiseL, wSplit, wJoin, wFs, wSlS1, wSlS2, wAug, wItemsC, wEnum, pStr, fStr, pIntS, fIntS, roInS, orF, NoExc, dgTwo, wItemsT, wSlS0, wIsdig, roMulS, roInL, wIndexS, wSum, pSum, fSum, lk_wide, lk_held, okT_T, wFld, wGet, wMeth, wOwn2, wOwnI, wOwn1, wOwnLen, wOwnStr, wRevT, wZip, wItemsLT, wTupD, wLstD, wMv, isOwn, insOf, iStm, iFld, iEnd, pSumT, fSumT, wNever, tb, eq_self, exists_eq_left', Option.some.injEq, lackN, wTruth, wMinL, roMinL, wEnum, wSlTo, wSlFrom, wPopAt, wLenO, wApp, fillD, List.getD_cons_zero, List.getD_cons_succ, dgPt, ptD, ptsD, wUnp, wLcP, outs, ptIx, ptsIx, stillS_un, stillS_sh, backs, ends, wListR, wCountO, wFrz,  wIf, wNext, wBreak, wCont, wRet, wRetN, wDrop, wSet, wTest, wAndB, wOrB, wNotB, wIsi, wVar, wC, wOp, wRaise, wCall, wCons, wNil, wFun, wPar, wTup, wNeg, wUn, wIfE, wAndV, wOrV, wNotV, wUnp2, wLst, wIxO, wLenO, wSetIx, wAppend, wDic0, wFor, wItemsL, wItemsS, wRng1, wRng2, wListRev, dgName, roAdd, roI, roI0, roB, roIx, roIsN, roF, roL, datas, List.map_cons, List.map_nil, entry, List.length_cons, List.length_nil, List.cons_append, List.nil_append, List.replicate, List.replicate_succ, List.replicate_zero, Nat.reduceAdd, Nat.reduceSub, Nat.zero_add,
  List.getElem?_cons_zero, List.getElem?_cons_succ, List.set_cons_zero, List.set_cons_succ, dat_sh, dat_ow, dat_dp, DL.isInt, DL.isBool, DL.isStr, DL.isLst, DL.isTup, PinD, Bool.not_true, Bool.not_false, Bool.false_eq_true, if_true, if_false, true_and, and_true, OkAD, bodyEnds, pInt1, pInt2, fAbs, fMin, fMax, pIntOf, fIntOf, pLen, fLen, pSeq, fSeq, reduceIte, decide_eq_true_eq, ite_true, ite_false, Bool.and_eq_true, Bool.not_eq_true', roEq_int, Bool.true_xor, Bool.false_xor, Bool.true_eq_false])
theorem sum_iD (l : List Int) : ((iD l).map intOf).sum = l.sum := by
  unfold iD
  rw [List.map_map]
  congr 1
  exact List.map_id'' (fun _ => rfl) l
/-! ### the laws' own -/
theorem wIf_k {t : DT Bool} {a b : DS} {N : DEn} {ρ : DEnv} {E : EC} (h : ∀ A B : DEnv → Prop, (∀ ρ', a N ρ' E → A ρ') → (∀ ρ', b N ρ' E → B ρ') → t ρ (fun c ρ' => if c = true then A ρ' else B ρ') E) : wIf t a b N ρ E := h _ _ (fun _ k => k) fun _ k => k
end C
set_option Elab.async false
set_option maxRecDepth 100000
set_option maxHeartbeats 1000000
set_option linter.unusedVariables false
/-! promises of the laws on scores of models -/
namespace C
open PySem PySem.Spec PyProof.Rows L2 NdefX DL
def qfD (w : Nat) (r : List Int) : D := .lst (iD (bflys r w))
def W_parity_signs : DW1 := fun ds Q _ => ∃ w : Nat, ds = [.int w] ∧ w ≤ 6 ∧ Q (.sh (.lst (iD (spsL w))))
def W_summed : DW1 := fun ds Q _ => ∃ w l s, ds = [.lst (sgD l), .lst (iD (spsL w)), .int (s : Nat)] ∧ TB w l ∧ s < 2 ^ w ∧ Q (.sh (.int (sc w l s)))
def W_scoresO : DW1 := W_tabO fun w l => iD (scL w l)
def W_law_some_bits : DW1 := fun ds Q _ => ∃ w : Nat, ds = [.sto, .int w] ∧ w ≤ 6 ∧ ∀ l, TB w l → Q (.sh (.lst (nD l)))
theorem mono_law_some_bits : MonoW W_law_some_bits := fun _ _ _ _ _ hq _ ⟨w, a, b, c⟩ => ⟨w, a, b, fun l h => hq _ (c l h)⟩
def W_law_model : DW1 := fun ds Q _ => ∃ m : Nat, ds = [.sto, .int m] ∧ m ≤ 6 ∧ ∀ w l, w ≤ m → TB w l → Q (.sh (mdl w l))
theorem mono_law_model : MonoW W_law_model := fun _ _ _ _ _ hq _ ⟨w, a, b, c⟩ => ⟨w, a, b, fun v l h1 h2 => hq _ (c v l h1 h2)⟩
/-- what is handed in the place of a table: no model, and no table in it -/
def BadX (d : D) : Prop := GivX d ∧ isM d = false
def W_law_odd_tableM : DW1 := fun ds Q _ => ∃ w l, ds = [.sto, mdl w l] ∧ TB w l ∧ ∀ d, BadX d → Q (.sh d)
theorem mono_law_odd_tableM : MonoW W_law_odd_tableM := fun _ _ _ _ _ hq _ ⟨w, l, a, b, c⟩ => ⟨w, l, a, b, fun d h => hq _ (c d h)⟩
theorem mono_parity_signs : MonoW W_parity_signs := by
  intro ds Q Q' E E' hq he h
  repeat (first | exact hq _ h | exact he _ h | exact ends_mono hq he h | exact (fun p => hq _ (h p)) | exact (fun p F => hq _ (h p F)) | (obtain ⟨a, h⟩ := h; refine ⟨a, ?_⟩))
theorem len_parity_signs : ∀ ds Q E, W_parity_signs ds Q E → ds.length = 1 := by
  intro ds Q E h
  repeat (first | (have e := h.1; subst e; rfl) | (obtain ⟨_, h⟩ := h))
theorem mono_summed : MonoW W_summed := by
  intro ds Q Q' E E' hq he h
  repeat (first | exact hq _ h | exact he _ h | exact ends_mono hq he h | exact (fun p => hq _ (h p)) | exact (fun p F => hq _ (h p F)) | (obtain ⟨a, h⟩ := h; refine ⟨a, ?_⟩))
theorem len_summed : ∀ ds Q E, W_summed ds Q E → ds.length = 3 := by
  intro ds Q E h
  repeat (first | (have e := h.1; subst e; rfl) | (obtain ⟨_, h⟩ := h))
theorem mono_scoresO : MonoW W_scoresO := tabO_mono
theorem len_scoresO : ∀ ds Q E, W_scoresO ds Q E → ds.length = 1 := tabO_len
theorem len_law_some_bits : ∀ ds Q E, W_law_some_bits ds Q E → ds.length = 2 := by
  intro ds Q E h
  repeat (first | (have e := h.1; subst e; rfl) | (obtain ⟨_, h⟩ := h))
theorem len_law_model : ∀ ds Q E, W_law_model ds Q E → ds.length = 2 := by
  intro ds Q E h
  repeat (first | (have e := h.1; subst e; rfl) | (obtain ⟨_, h⟩ := h))
theorem len_law_odd_tableM : ∀ ds Q E, W_law_odd_tableM ds Q E → ds.length = 2 := by
  intro ds Q E h
  repeat (first | (have e := h.1; subst e; rfl) | (obtain ⟨_, h⟩ := h))
end C
set_option Elab.async false
set_option maxRecDepth 100000
set_option maxHeartbeats 1000000
set_option linter.unusedVariables false
/-! promises of the law on scores by three ways -/
namespace C
open PySem PySem.Spec PyProof.Rows L2 NdefX DL
def scD (w : Nat) (l : List Nat) : D := .lst (iD (scL w l))
def W_plain_scores : DW1 := W_tabO fun w l => iD (scL w l)
/-- what a def says, by its number -/
def AskR (k : Int) (g : List D) (r : Kd) : Prop := ∃ d, g = [d] ∧ 0 ≤ k ∧ k < 6 ∧ (k % 3 ≠ 2 → TabR scD d r) ∧ (k % 3 = 2 → FldR "field" qfD d r)
def GivQ (k : Int) (gs : List D) : Prop := ∃ x, gs = [x] ∧ 0 ≤ k ∧ k < 6 ∧ GivX x
def FltQ (k : Int) (x : D) (r : Kd) : Prop := (k ≠ 2 → r = if isM x = true then .ok .non else .error (Er1 "WrongKind" "table")) ∧ (k = 2 → f_field "field" (asT x) = some r)
def DueR (k : Int) (gs : List D) (m : Kd) : Prop := ∃ x, gs = [x] ∧ 0 ≤ k ∧ k < 6 ∧ GivX x ∧ (k % 3 ≠ 2 → (isM x = false ∧ m = .error (Er1 "WrongKind" "table")) ∨ ∃ w l, x = mdl w l ∧ TB w l ∧ m = .ok (scD w l)) ∧ (k % 3 = 2 → (∃ e, f_field "field" (asT x) = some (.error e) ∧ m = .error e) ∨ ∃ w r, rowI x r ∧ r.length = 2 ^ w ∧ w ≤ 6 ∧ m = .ok (qfD w r))
def fltD : Kd → D
  | .ok _ => .non
  | .error ⟨c, some a⟩ => .tup [.str c, a]
  | .error ⟨c, none⟩ => .non
def W_law_fault : DW1 := fun ds Q _ => ∃ (k : Int) (x : D) (r : Kd), ds = [.int k, .lst [x]] ∧ 0 ≤ k ∧ k < 3 ∧ GivX x ∧ FltQ k x r ∧ Q (.sh (fltD r))
/-- the two ways out, an answer being whatever may be made one's own -/
def endsY (r : Kd) (Q : Sl → Prop) (E : Er → Prop) : Prop := (∀ v, r = .ok v → ∀ y, okO y = true → y.dat = v → Q y) ∧ ∀ e, r = .error e → E e
theorem endsY_mono {r : Kd} {Q Q' : Sl → Prop} {E E' : Er → Prop} (hq : ∀ x, Q x → Q' x) (he : ∀ e, E e → E' e) (h : endsY r Q E) : endsY r Q' E' := ⟨fun v e y o d => hq _ (h.1 v e y o d), fun e k => he _ (h.2 e k)⟩
def mT : Kd → Kd
  | .ok v => .ok (asT v)
  | .error e => .error e
def W_law_ask : DW1 := fun ds Q E => ∃ (k : Int) (g : List D) (r : Kd), ds = [.int k, .lst g] ∧ AskR k g r ∧ endsY r Q E
theorem mono_law_ask : MonoW W_law_ask := fun _ _ _ _ _ hq he ⟨k, g, r, a, b, c⟩ => ⟨k, g, r, a, b, endsY_mono hq he c⟩
def W_law_called : DW1 := fun ds Q _ => ∃ (k : Int) (g : List D) (r : Kd), ds = [.int k, .lst g] ∧ AskR k g r ∧ (∀ v F, r = .ok v → Q (.dp F (.tup [.str "answer", v]))) ∧ ∀ e, r = .error e → Q (.sh (toldD (.error e)))
theorem mono_law_called : MonoW W_law_called := fun _ _ _ _ _ hq _ ⟨k, g, r, a, b, c, d⟩ => ⟨k, g, r, a, b, fun v F h => hq _ (c v F h), fun e h => hq _ (d e h)⟩
def W_law_due : DW1 := fun ds Q _ => ∃ (k : Int) (gs : List D), ds = [.int k, .lst gs] ∧ GivQ k gs ∧ ∀ m, DueR k gs m → Q (.sh (toldD m))
theorem mono_law_due : MonoW W_law_due := fun _ _ _ _ _ hq _ ⟨k, gs, a, b, c⟩ => ⟨k, gs, a, b, fun m h => hq _ (c m h)⟩
def W_law_right : DW1 := fun ds Q _ => ∃ (k : Int) (gs : List D), ds = [.int k, .lst gs] ∧ GivQ k gs ∧ Q (.sh (.bl true))
def W_law_signs : DW1 := fun ds Q _ => ∃ w l, ds = [.sto, mdl w l] ∧ TB w l ∧ ∀ d, rowI d (sgI l) → Q (.sh d)
theorem mono_law_signs : MonoW W_law_signs := fun _ _ _ _ _ hq _ ⟨w, l, a, b, c⟩ => ⟨w, l, a, b, fun d h => hq _ (c d h)⟩
def W_law_shared : DW1 := fun ds Q _ => ∃ w l v m, ds = [.sto, .lst [mdl w l, mdl v m]] ∧ TB w l ∧ TB v m ∧ Q (.sh (.bl true))
theorem mono_plain_scores : MonoW W_plain_scores := tabO_mono
theorem len_plain_scores : ∀ ds Q E, W_plain_scores ds Q E → ds.length = 1 := tabO_len
theorem mono_law_fault : MonoW W_law_fault := by
  intro ds Q Q' E E' hq he h
  repeat (first | exact hq _ h | exact he _ h | exact ends_mono hq he h | exact (fun p => hq _ (h p)) | exact (fun p F => hq _ (h p F)) | (obtain ⟨a, h⟩ := h; refine ⟨a, ?_⟩))
theorem len_law_fault : ∀ ds Q E, W_law_fault ds Q E → ds.length = 2 := by
  intro ds Q E h
  repeat (first | (have e := h.1; subst e; rfl) | (obtain ⟨_, h⟩ := h))
theorem len_law_ask : ∀ ds Q E, W_law_ask ds Q E → ds.length = 2 := by
  intro ds Q E h
  repeat (first | (have e := h.1; subst e; rfl) | (obtain ⟨_, h⟩ := h))
theorem len_law_called : ∀ ds Q E, W_law_called ds Q E → ds.length = 2 := by
  intro ds Q E h
  repeat (first | (have e := h.1; subst e; rfl) | (obtain ⟨_, h⟩ := h))
theorem len_law_due : ∀ ds Q E, W_law_due ds Q E → ds.length = 2 := by
  intro ds Q E h
  repeat (first | (have e := h.1; subst e; rfl) | (obtain ⟨_, h⟩ := h))
theorem mono_law_right : MonoW W_law_right := by
  intro ds Q Q' E E' hq he h
  repeat (first | exact hq _ h | exact he _ h | exact ends_mono hq he h | exact (fun p => hq _ (h p)) | exact (fun p F => hq _ (h p F)) | (obtain ⟨a, h⟩ := h; refine ⟨a, ?_⟩))
theorem len_law_right : ∀ ds Q E, W_law_right ds Q E → ds.length = 2 := by
  intro ds Q E h
  repeat (first | (have e := h.1; subst e; rfl) | (obtain ⟨_, h⟩ := h))
theorem len_law_signs : ∀ ds Q E, W_law_signs ds Q E → ds.length = 2 := by
  intro ds Q E h
  repeat (first | (have e := h.1; subst e; rfl) | (obtain ⟨_, h⟩ := h))
theorem mono_law_shared : MonoW W_law_shared := by
  intro ds Q Q' E E' hq he h
  repeat (first | exact hq _ h | exact he _ h | exact ends_mono hq he h | exact (fun p => hq _ (h p)) | exact (fun p F => hq _ (h p F)) | (obtain ⟨a, h⟩ := h; refine ⟨a, ?_⟩))
theorem len_law_shared : ∀ ds Q E, W_law_shared ds Q E → ds.length = 2 := by
  intro ds Q E h
  repeat (first | (have e := h.1; subst e; rfl) | (obtain ⟨_, h⟩ := h))
end C
set_option maxRecDepth 100000
/-! D-level programs, printed by gen_defs.py -/
namespace C
open PySem PySem.Spec PyProof.Rows L2 NdefX DL
/-- _law_same -/
def p_law_sameD (n : Nat) : DS :=
  (wSeq (wIf (wTest (wOp (roIsN false) (wVar 1) (wC .non))) (wSeq (wRet (wOp (roIsN false) (wVar 0) (wC .non)))
  wNext) wNext)
  (wSeq (wIf (wTest (wIsi isBool [] (wVar 1))) (wSeq (wRet (wAndV (wIsi isBool [] (wVar 0)) (wOp (roEq false) (wVar 0) (wVar 1))))
  wNext) wNext)
  (wSeq (wIf (wTest (wIsi isInt [] (wVar 1))) (wSeq (wRet (wAndV (wIsi isInt [] (wVar 0)) (wAndV (wNotV (wIsi isBool [] (wVar 0))) (wOp (roEq false) (wVar 0) (wVar 1)))))
  wNext) wNext)
  (wSeq (wIf (wTest (wIsi (orF isStr isDic) [] (wVar 1))) (wSeq (wRet (wAndV (wIsi (orF isStr isDic) [] (wVar 0)) (wOp roEqS (wVar 0) (wVar 1))))
  wNext) wNext)
  (wSeq (wIf (wAndB (wTest (wIsi isLst [] (wVar 1))) (wNotB (wTest (wIsi isLst [] (wVar 0))))) (wSeq (wRet (wC (.bl false)))
  wNext) wNext)
  (wSeq (wIf (wAndB (wTest (wIsi isTup [] (wVar 1))) (wNotB (wTest (wIsi isTup [] (wVar 0))))) (wSeq (wRet (wC (.bl false)))
  wNext) wNext)
  (wSeq (wIf (wTest (wOp (roEq true) (wLen (wCons (wVar 0) wNil)) (wLen (wCons (wVar 1) wNil)))) (wSeq (wRet (wC (.bl false)))
  wNext) wNext)
  (wSeq (wFor (wRng1 (wCons (wLen (wCons (wVar 1) wNil)) wNil)) (dgName 2) (wSeq (wIf (wNotB (wTest (wCall (W_law_sameD n) (wCons (wIx (wVar 0) (wVar 2)) (wCons (wIx (wVar 1) (wVar 2)) wNil))))) (wSeq (wRet (wC (.bl false)))
  wNext) wNext)
  wNext))
  (wSeq (wRet (wC (.bl true)))
  wNext)))))))))
/-- _law_is_table -/
def p_law_is_tableD : DS :=
  (wSeq (wIf (wNotB (wTest (wIsi (isOwnX okI "Table") [] (wVar 0)))) (wSeq (wRet (wC (.bl false)))
  wNext) wNext)
  (wSeq (wRet (wAndV (wCall (W_law_sameD 6) (wCons (wGet "Table" W_Table_width (wVar 0)) (wCons (wVar 1) wNil))) (wCall (W_law_sameD 6) (wCons (wGet "Table" W_Table_bits (wVar 0)) (wCons (wTuple (wCons (wVar 2) wNil)) wNil)))))
  wNext))
/-- _law_is_model -/
def p_law_is_model : DS :=
  (wSeq (wIf (wOrB (wNotB (wTest (wIsi (insF okI isTup) [] (wVar 0)))) (wOrB (wTest (wOp (roEq true) (wLen (wCons (wVar 0) wNil)) (wC (.int 2)))) (wNotB (wTest (wCall W_law_is_integer (wCons (wIx (wVar 0) (wC (.int 0))) wNil)))))) (wSeq (wRet (wC (.bl false)))
  wNext) wNext)
  (wSeq (wIf (wOrB (wTest (wLt (wIx (wVar 0) (wC (.int 0))) (wC (.int 0)))) (wOrB (wTest (wGt (wIx (wVar 0) (wC (.int 0))) (wC (.int 6)))) (wOrB (wNotB (wTest (wIsi (insF okI isLst) [] (wIx (wVar 0) (wC (.int 1)))))) (wTest (wOp (roEq true) (wLen (wCons (wIx (wVar 0) (wC (.int 1))) wNil)) (wShl (wC (.int 1)) (wIx (wVar 0) (wC (.int 0))))))))) (wSeq (wRet (wC (.bl false)))
  wNext) wNext)
  (wSeq (wFor (wItemsL (wIx (wVar 0) (wC (.int 1)))) (dgName 1) (wSeq (wIf (wOrB (wNotB (wTest (wCall W_law_is_integer (wCons (wVar 1) wNil)))) (wOrB (wTest (wLt (wVar 1) (wC (.int 0)))) (wTest (wGt (wVar 1) (wC (.int 1)))))) (wSeq (wRet (wC (.bl false)))
  wNext) wNext)
  wNext))
  (wSeq (wRet (wC (.bl true)))
  wNext))))
/-- _law_as_table -/
def p_law_as_table (n : Nat) : DS :=
  (wSeq (wIf (wTest (wCall W_law_is_model (wCons (wVar 0) wNil))) (wSeq (wRet (wCall W_Table_init (wCons (wIx (wVar 0) (wC (.int 0))) (wCons (wList (wCons (wIx (wVar 0) (wC (.int 1))) wNil)) wNil))))
  wNext) wNext)
  (wSeq (wIf (wTest (wIsi (insF okI isLst) [] (wVar 0))) (wSeq (wRet (wLcO 1 (wItemsL (wVar 0)) wTrue (wCall (W_law_as_table n) (wCons (wVar 1) wNil))))
  wNext) wNext)
  (wSeq (wIf (wTest (wIsi (insF okI isTup) [] (wVar 0))) (wSeq (wRet (wTupO (wLcO 1 (wItemsT (wVar 0)) wTrue (wCall (W_law_as_table n) (wCons (wVar 1) wNil)))))
  wNext) wNext)
  (wSeq (wRet (wVar 0))
  wNext))))
/-- _law_meets -/
def p_law_meets (n : Nat) : DS :=
  (wSeq (wIf (wTest (wCall W_law_is_model (wCons (wVar 1) wNil))) (wSeq (wRet (wCall W_law_is_tableD (wCons (wVar 0) (wCons (wIx (wVar 1) (wC (.int 0))) (wCons (wIx (wVar 1) (wC (.int 1))) wNil)))))
  wNext) wNext)
  (wSeq (wIf (wNotB (wTest (wIsi (orF (insF okI isLst) (insF okI isTup)) [] (wVar 1)))) (wSeq (wRet (wCall (W_law_sameD 6) (wCons (wVar 0) (wCons (wVar 1) wNil))))
  wNext) wNext)
  (wSeq (wIf (wOrB (wTest (wOp (roEq true) (wIsi (insF okI isLst) [] (wVar 1)) (wIsi (insF okI isLst) [] (wVar 0)))) (wTest (wOp (roEq true) (wIsi (insF okI isTup) [] (wVar 1)) (wIsi (insF okI isTup) [] (wVar 0))))) (wSeq (wRet (wC (.bl false)))
  wNext) wNext)
  (wSeq (wIf (wTest (wOp (roEq true) (wLen (wCons (wVar 0) wNil)) (wLen (wCons (wVar 1) wNil)))) (wSeq (wRet (wC (.bl false)))
  wNext) wNext)
  (wSeq (wFor (wRng1 (wCons (wLen (wCons (wVar 1) wNil)) wNil)) (dgName 2) (wSeq (wIf (wNotB (wTest (wCall (W_law_meets n) (wCons (wIx (wVar 0) (wVar 2)) (wCons (wIx (wVar 1) (wVar 2)) wNil))))) (wSeq (wRet (wC (.bl false)))
  wNext) wNext)
  wNext))
  (wSeq (wRet (wC (.bl true)))
  wNext))))))
/-- _law_refused -/
def p_law_refused (pn : Addr × Obj) : DS :=
  (wSeq (wSet 1 (wFrz (wLst (wCons (wC (.str "WrongKind")) (wCons (wC (.str "WrongSize")) (wCons (wC (.str "OutOfRange")) (wCons (wC (.str "BadText")) (wCons (wC (.str "NotATable")) (wCons (wC (.str "Spent")) (wCons (wC (.str "TooFewPlaces")) (wCons (wC (.str "WrongPaper")) wNil)))))))))))
  (wSeq (wSet 1 (wFrz (wOp roAdd (wVar 1) (wLst (wCons (wC (.str "UnknownName")) (wCons (wC (.str "NameTaken")) (wCons (wC (.str "NothingToUndo")) (wCons (wC (.str "BookFull")) wNil))))))))
  (wSeq (wSet 2 (wFrz (wLst (wCons (wIsi (isCls errs "WrongKind") [pn] (wVar 0)) (wCons (wIsi (isCls errs "WrongSize") [pn] (wVar 0)) (wCons (wIsi (isCls errs "OutOfRange") [pn] (wVar 0)) wNil))))))
  (wSeq (wSet 2 (wFrz (wOp roAdd (wVar 2) (wLst (wCons (wIsi (isCls errs "BadText") [pn] (wVar 0)) (wCons (wIsi (isCls errs "NotATable") [pn] (wVar 0)) (wCons (wIsi (isCls errs "Spent") [pn] (wVar 0)) wNil)))))))
  (wSeq (wSet 2 (wFrz (wOp roAdd (wVar 2) (wLst (wCons (wIsi (isCls errs "TooFewPlaces") [pn] (wVar 0)) (wCons (wIsi (isCls errs "WrongPaper") [pn] (wVar 0)) (wCons (wIsi (isCls errs "UnknownName") [pn] (wVar 0)) wNil)))))))
  (wSeq (wSet 2 (wFrz (wOp roAdd (wVar 2) (wLst (wCons (wIsi (isCls errs "NameTaken") [pn] (wVar 0)) (wCons (wIsi (isCls errs "NothingToUndo") [pn] (wVar 0)) (wCons (wIsi (isCls errs "BookFull") [pn] (wVar 0)) wNil)))))))
  (wSeq (wSet 3 (wLc 4 (wRng1 (wCons (wC (.int 12)) wNil)) (wTest (wIx (wVar 2) (wVar 4))) (wIx (wVar 1) (wVar 4))))
  (wSeq (wIf (wOrB (wTest (wOp (roEq true) (wLen (wCons (wVar 3) wNil)) (wC (.int 1)))) (wNotB (wTest (wIsi (isVE errs) [pn] (wVar 0))))) (wSeq (wRet (wTup (wCons (wC (.str "wrong classes")) (wCons (wVar 3) wNil))))
  wNext) wNext)
  (wSeq (wIf (wTest (wOp (roIn false) (wIx (wVar 3) (wC (.int 0))) (wSlTo (wVar 1) (wC (.int 3))))) (wSeq (wRet (wTup (wCons (wIx (wVar 3) (wC (.int 0))) (wCons (wXf okX [pn] "argument" (wVar 0)) wNil))))
  wNext) wNext)
  (wSeq (wRet (wTup (wCons (wIx (wVar 3) (wC (.int 0))) (wCons (wC .non) wNil))))
  wNext))))))))))
end C
set_option maxRecDepth 100000
/-! D-level programs, printed by gen_defs.py -/
namespace C
open PySem PySem.Spec PyProof.Rows L2 NdefX DL
/-- stepped -/
def p_steppedO : DS :=
  (wSeq (wSet 2 (wShl (wC (.int 1)) (wVar 1)))
  (wSeq (wSet 3 (wLst wNil))
  (wSeq (wFor (wRng1 (wCons (wLen (wCons (wVar 0) wNil)) wNil)) (dgName 4) (wSeq (wIf (wTruth (wAnd2 (wVar 4) (wVar 2))) (wSeq (wAppend 3 (wSub (wIx (wVar 0) (wXor2 (wVar 4) (wVar 2))) (wIx (wVar 0) (wVar 4))))
  wNext) (wSeq (wAppend 3 (wOp roAdd (wIx (wVar 0) (wVar 4)) (wIx (wVar 0) (wOr2 (wVar 4) (wVar 2)))))
  wNext))
  wNext))
  (wSeq (wRet (wMv 3))
  wNext))))
/-- all_steps -/
def p_all_stepsO : DS :=
  (wSeq (wSet 1 (wList (wCons (wVar 0) wNil)))
  (wSeq (wFor (wRng1 (wCons (wCall W_width_of_length (wCons (wLen (wCons (wVar 0) wNil)) wNil)) wNil)) (dgName 2) (wSeq (wSet 1 (wCall W_steppedO (wCons (wVar 1) (wCons (wVar 2) wNil))))
  wNext))
  (wSeq (wRet (wMv 1))
  wNext)))
/-- quick_field -/
def p_quick_field : DS :=
  (wSeq (wDrop (wCall W_check_field (wCons (wVar 0) (wCons (wC (.str "field")) wNil))))
  (wSeq (wRet (wCall W_all_stepsO (wCons (wVar 0) wNil)))
  wNext))
/-- check_field -/
def p_check_field : DS :=
  (wSeq (wDrop (wCall W_check_row_shades (wCons (wVar 0) (wCons (wVar 1) wNil))))
  (wSeq (wIf (wTest (wOp (roIn true) (wLen (wCons (wVar 0) wNil)) (wC (.tup ([1, 2, 4, 8, 16, 32, 64].map D.int))))) (wSeq (wRaise "WrongSize" (wVar 1))
  wNext) wNext)
  (wSeq (wFor (wItemsLT (wVar 0)) (dgName 2) (wSeq (wIf (wNotB (wTest (wCall W_whole (wCons (wVar 2) wNil)))) (wSeq (wRaise "WrongKind" (wVar 1))
  wNext) wNext)
  wNext))
  wNext)))
/-- _law_row_fault -/
def p_law_row_faultN : DS :=
  (wSeq (wIf (wNotB (wTest (wIsi (orF (insF okI isLst) (insF okI isTup)) [] (wVar 0)))) (wSeq (wRet (wC (.str "WrongKind")))
  wNext) wNext)
  (wSeq (wIf (wOrB (wTest (wLt (wLen (wCons (wVar 0) wNil)) (wVar 1))) (wTest (wGt (wLen (wCons (wVar 0) wNil)) (wVar 2)))) (wSeq (wRet (wC (.str "WrongSize")))
  wNext) wNext)
  (wSeq (wFor (wItemsLT (wVar 0)) (dgName 5) (wSeq (wSet 6 (wCall W_law_number_fault_iv (wCons (wVar 5) (wCons (wVar 3) (wCons (wVar 4) wNil)))))
  (wSeq (wIf (wTest (wOp (roEq true) (wVar 6) (wC (.str "")))) (wSeq (wRet (wVar 6))
  wNext) wNext)
  wNext)))
  (wSeq (wRet (wC (.str "")))
  wNext))))
/-- _law_field_fault -/
def p_law_field_fault : DS :=
  (wSeq (wIf (wAndB (wTest (wIsi (orF (insF okI isLst) (insF okI isTup)) [] (wVar 0))) (wTest (wOp (roIn true) (wLen (wCons (wVar 0) wNil)) (wLst (wCons (wC (.int 1)) (wCons (wC (.int 2)) (wCons (wC (.int 4)) (wCons (wC (.int 8)) (wCons (wC (.int 16)) (wCons (wC (.int 32)) (wCons (wC (.int 64)) wNil))))))))))) (wSeq (wRet (wC (.str "WrongSize")))
  wNext) wNext)
  (wSeq (wRet (wCall W_law_row_faultN (wCons (wVar 0) (wCons (wC (.int 1)) (wCons (wC (.int 64)) (wCons (wC .non) (wCons (wC .non) wNil)))))))
  wNext))
/-- _law_plain -/
def p_law_plain : DS :=
  (wSeq (wSet 1 (wFrz (wLst (wCons (wC (.int 0)) wNil))))
  (wSeq (wFor (wRng1 (wCons (wC (.int 6)) wNil)) (dgName 2) (wSeq (wSet 1 (wFrz (wOp roAdd (wVar 1) (wLc 5 (wItemsL (wVar 1)) wTrue (wSub (wC (.int 1)) (wVar 5))))))
  wNext))
  (wSeq (wSet 3 (wLen (wCons (wVar 0) wNil)))
  (wSeq (wRet (wLc 4 (wRng1 (wCons (wVar 3) wNil)) wTrue (wSum (wCons (wLc 6 (wRng1 (wCons (wVar 3) wNil)) wTrue (wMul (wIx (wVar 0) (wVar 6)) (wSub (wC (.int 1)) (wMul (wC (.int 2)) (wIx (wVar 1) (wAnd2 (wVar 4) (wVar 6))))))) wNil))))
  wNext))))
/-- _law_odd_number -/
def p_law_odd_numberN : DS :=
  (wSeq (wSet 3 (wC (.int 0)))
  (wSeq (wIf (wTest (wOp (roIsN true) (wVar 1) (wC .non))) (wSeq (wSet 3 (wVar 1))
  wNext) wNext)
  (wSeq (wSet 4 (wVar 3))
  (wSeq (wIf (wTest (wOp (roIsN true) (wVar 2) (wC .non))) (wSeq (wSet 4 (wVar 2))
  wNext) wNext)
  (wSeq (wSet 5 (wCall W_law_take (wCons (wVar 0) (wCons (wC (.int 14)) wNil))))
  (wSeq (wIf (wTest (wLt (wVar 5) (wC (.int 8)))) (wSeq (wRet (wIx (wLst (wCons (wC .non) (wCons (wC (.bl true)) (wCons (wC (.bl false)) (wCons (wC (.str "")) (wCons (wC (.str "1")) (wCons (wLst (wCons (wC (.int 0)) wNil)) (wCons (wTup (wCons (wC (.int 1)) wNil)) (wCons wDic0 wNil))))))))) (wVar 5)))
  wNext) wNext)
  (wSeq (wRet (wIx (wLst (wCons (wSub (wVar 3) (wC (.int 1))) (wCons (wOp roAdd (wVar 4) (wC (.int 1))) (wCons (wSub (wVar 3) (wPow (wC (.int 10)) (wC (.int 40)))) (wCons (wOp roAdd (wVar 4) (wPow (wC (.int 10)) (wC (.int 40)))) (wCons (wVar 3) (wCons (wVar 4) wNil))))))) (wSub (wVar 5) (wC (.int 8)))))
  wNext)))))))
/-- _law_odd_field -/
def p_law_odd_fieldX : DS :=
  (wSeq (wSet 2 (wCall W_law_take (wCons (wVar 0) (wCons (wC (.int 5)) wNil))))
  (wSeq (wSet 3 (wList (wCons (wVar 1) wNil)))
  (wSeq (wIf (wTest (wOp (roEq false) (wVar 2) (wC (.int 0)))) (wSeq (wRet (wIx (wLst (wCons (wC .non) (wCons (wC (.int 7)) (wCons (wC (.str "0100")) (wCons (wC (.bl true)) (wCons (wTup (wCons (wC (.int 2)) (wCons (wLst (wCons (wC (.int 0)) (wCons (wC (.int 1)) (wCons (wC (.int 1)) (wCons (wC (.int 0)) wNil))))) wNil))) (wCons (wDicC [.inl 0] [.int 0]) wNil))))))) (wCall W_law_take (wCons (wVar 0) (wCons (wC (.int 6)) wNil)))))
  wNext) wNext)
  (wSeq (wIf (wTest (wLt (wVar 2) (wC (.int 3)))) (wSeq (wSet 4 (wIx (wVar 1) (wCall W_law_take (wCons (wVar 0) (wCons (wLen (wCons (wVar 1) wNil)) wNil)))))
  (wSeq (wSet 5 (wIx (wLst (wCons (wC (.int 0)) (wCons (wSub (wLen (wCons (wVar 1) wNil)) (wC (.int 1))) (wCons (wOp roAdd (wLen (wCons (wVar 1) wNil)) (wC (.int 1))) (wCons (wC (.int 3)) (wCons (wC (.int 12)) (wCons (wC (.int 65)) (wCons (wC (.int 96)) (wCons (wC (.int 128)) wNil))))))))) (wCall W_law_take (wCons (wVar 0) (wCons (wC (.int 8)) wNil)))))
  (wSeq (wSet 3 (wSlTo (wOp roAdd (wVar 3) (wLc 6 (wRng1 (wCons (wC (.int 128)) wNil)) wTrue (wVar 4))) (wVar 5)))
  wNext))) wNext)
  (wSeq (wIf (wAndB (wTest (wGt (wVar 2) (wC (.int 1)))) (wTest (wGt (wLenO 3) (wC (.int 0))))) (wSeq (wFor (wRng1 (wCons (wOp roAdd (wC (.int 1)) (wCall W_law_take (wCons (wVar 0) (wCons (wC (.int 2)) wNil)))) wNil)) (dgName 6) (wSeq (wSetIx 3 (wCall W_law_odd_numberN (wCons (wVar 0) (wCons (wC .non) (wCons (wC .non) wNil)))) (wCall W_law_near (wCons (wVar 0) (wCons (wC (.int 0)) (wCons (wSub (wLenO 3) (wC (.int 1))) wNil)))))
  wNext))
  wNext) wNext)
  (wSeq (wRet (wCall W_law_as_row (wCons (wVar 0) (wCons (wVar 3) wNil))))
  wNext))))))
end C
set_option maxRecDepth 100000
/-! D-level programs, printed by gen_defs.py -/
namespace C
open PySem PySem.Spec PyProof.Rows L2 NdefX DL
/-- parity_signs -/
def p_parity_signs : DS :=
  (wSeq (wSet 1 (wLst (wCons (wC (.int 1)) wNil)))
  (wSeq (wFor (wRng1 (wCons (wVar 0) wNil)) (dgName 2) (wSeq (wSet 1 (wOp roAdd (wVar 1) (wLc 3 (wItemsL (wVar 1)) wTrue (wNeg (wVar 3)))))
  wNext))
  (wSeq (wRet (wVar 1))
  wNext)))
/-- summed -/
def p_summed : DS :=
  (wSeq (wRet (wSum (wCons (wLc 3 (wRng1 (wCons (wLen (wCons (wVar 0) wNil)) wNil)) wTrue (wMul (wIx (wVar 0) (wVar 3)) (wIx (wVar 1) (wAnd2 (wVar 3) (wVar 2))))) wNil)))
  wNext)
/-- scores -/
def p_scoresO : DS :=
  (wSeq (wDrop (wCall W_check_table_shades (wCons (wVar 0) (wCons (wC (.str "table")) wNil))))
  (wSeq (wRet (wCall W_all_stepsO (wCons (wMeth "Table" "signs" W_Table_signs (wVar 0) wNil) wNil)))
  wNext))
/-- _law_some_bits -/
def p_law_some_bits : DS :=
  (wSeq (wSet 2 (wShl (wC (.int 1)) (wVar 1)))
  (wSeq (wSet 3 (wCall W_law_take (wCons (wVar 0) (wCons (wC (.int 8)) wNil))))
  (wSeq (wSet 4 (wCall W_law_take (wCons (wVar 0) (wCons (wShl (wC (.int 1)) (wVar 2)) wNil))))
  (wSeq (wIf (wTest (wOp (roEq false) (wVar 3) (wC (.int 0)))) (wSeq (wSet 4 (wIx (wLst (wCons (wC (.int 0)) (wCons (wSub (wShl (wC (.int 1)) (wVar 2)) (wC (.int 1))) wNil))) (wAnd2 (wVar 4) (wC (.int 1)))))
  wNext) wNext)
  (wSeq (wSet 5 (wLc 6 (wRng1 (wCons (wVar 2) wNil)) wTrue (wAnd2 (wShr (wVar 4) (wVar 6)) (wC (.int 1)))))
  (wSeq (wIf (wAndB (wTest (wLt (wVar 3) (wC (.int 3)))) (wTest (wGt (wVar 3) (wC (.int 0))))) (wSeq (wSet 5 (wLc 6 (wRng1 (wCons (wVar 2) wNil)) wTrue (wXor2 (wCall W_law_parity (wCons (wAnd2 (wVar 4) (wSub (wVar 2) (wC (.int 1)))) (wCons (wVar 6) wNil))) (wAnd2 (wShr (wVar 4) (wVar 1)) (wC (.int 1))))))
  wNext) wNext)
  (wSeq (wIf (wTest (wOp (roEq false) (wVar 3) (wC (.int 2)))) (wSeq (wSetIx 5 (wC (.int 0)) (wAnd2 (wShr (wVar 4) (wVar 1)) (wSub (wVar 2) (wC (.int 1)))))
  wNext) wNext)
  (wSeq (wRet (wVar 5))
  wNext))))))))
/-- _law_model -/
def p_law_model : DS :=
  (wSeq (wSet 2 (wCall W_law_width (wCons (wVar 0) (wCons (wC (.int 0)) (wCons (wVar 1) wNil)))))
  (wSeq (wRet (wTup (wCons (wVar 2) (wCons (wCall W_law_some_bits (wCons (wVar 0) (wCons (wVar 2) wNil))) wNil))))
  wNext))
/-- _law_odd_table -/
def p_law_odd_tableM : DS :=
  (wSeq (wRet (wIx (wLst (wCons (wC .non) (wCons (wC (.int 1)) (wCons (wList (wCons (wIx (wVar 1) (wC (.int 1))) wNil)) (wCons (wTuple (wCons (wIx (wVar 1) (wC (.int 1))) wNil)) (wCons (wC (.str "1:01")) (wCons (wC (.bl true)) (wCons (wPow (wC (.int 10)) (wC (.int 20))) (wCons wDic0 wNil))))))))) (wCall W_law_take (wCons (wVar 0) (wCons (wC (.int 8)) wNil)))))
  wNext)
end C
set_option maxRecDepth 100000
/-! D-level programs, printed by gen_defs.py -/
namespace C
open PySem PySem.Spec PyProof.Rows L2 NdefX DL
/-- plain_scores -/
def p_plain_scores : DS :=
  (wSeq (wDrop (wCall W_check_table_shades (wCons (wVar 0) (wCons (wC (.str "table")) wNil))))
  (wSeq (wSet 1 (wMeth "Table" "signs" W_Table_signs (wVar 0) wNil))
  (wSeq (wSet 2 (wCall W_parity_signs (wCons (wGet "Table" W_Table_width (wVar 0)) wNil)))
  (wSeq (wRet (wLc 3 (wRng1 (wCons (wLen (wCons (wVar 1) wNil)) wNil)) wTrue (wCall W_summed (wCons (wVar 1) (wCons (wVar 2) (wCons (wVar 3) wNil))))))
  wNext))))
/-- _law_fault -/
def p_law_fault : DS :=
  (wSeq (wIf (wTest (wLt (wVar 0) (wC (.int 2)))) (wSeq (wRet (wIx (wLst (wCons (wTup (wCons (wC (.str "WrongKind")) (wCons (wC (.str "table")) wNil))) (wCons (wC .non) wNil))) (wInt (wCons (wCall W_law_is_model (wCons (wIx (wVar 1) (wC (.int 0))) wNil)) wNil))))
  wNext) wNext)
  (wSeq (wSet 2 (wC (.str "WrongKind")))
  (wSeq (wIf (wNotB (wTest (wCall W_law_is_model (wCons (wIx (wVar 1) (wC (.int 0))) wNil)))) (wSeq (wSet 2 (wCall W_law_field_fault (wCons (wIx (wVar 1) (wC (.int 0))) wNil)))
  wNext) wNext)
  (wSeq (wRet (wCall W_law_first_fault (wCons (wLst (wCons (wTup (wCons (wC (.str "field")) (wCons (wVar 2) wNil))) wNil)) wNil)))
  wNext))))
/-- _law_due -/
def p_law_due : DS :=
  (wSeq (wSet 0 (wMod (wInt (wCons (wVar 0) wNil)) (wC (.int 3))))
  (wSeq (wSet 2 (wCall W_law_fault (wCons (wVar 0) (wCons (wVar 1) wNil))))
  (wSeq (wIf (wTest (wOp (roIsN true) (wVar 2) (wC .non))) (wSeq (wRet (wTup (wCons (wC (.str "refused")) (wCons (wVar 2) wNil))))
  wNext) wNext)
  (wSeq (wIf (wTest (wOp (roEq false) (wVar 0) (wC (.int 2)))) (wSeq (wRet (wTup (wCons (wC (.str "answer")) (wCons (wCall W_law_plain (wCons (wIx (wVar 1) (wC (.int 0))) wNil)) wNil))))
  wNext) wNext)
  (wSeq (wRet (wTup (wCons (wC (.str "answer")) (wCons (wCall W_law_plain (wCons (wLc 3 (wItemsL (wIx (wIx (wVar 1) (wC (.int 0))) (wC (.int 1)))) wTrue (wSub (wC (.int 1)) (wMul (wC (.int 2)) (wVar 3)))) wNil)) wNil))))
  wNext)))))
/-- _law_ask -/
def p_law_ask : DS :=
  (wSeq (wIf (wTest (wOp (roEq false) (wVar 0) (wC (.int 0)))) (wSeq (wRet (wCall W_scoresO (wCons (wIx (wVar 1) (wC (.int 0))) wNil)))
  wNext) wNext)
  (wSeq (wIf (wTest (wOp (roEq false) (wVar 0) (wC (.int 1)))) (wSeq (wRet (wCall W_plain_scores (wCons (wIx (wVar 1) (wC (.int 0))) wNil)))
  wNext) wNext)
  (wSeq (wIf (wTest (wOp (roEq false) (wVar 0) (wC (.int 2)))) (wSeq (wRet (wCall W_quick_field (wCons (wIx (wVar 1) (wC (.int 0))) wNil)))
  wNext) wNext)
  (wSeq (wIf (wTest (wOp (roEq false) (wVar 0) (wC (.int 3)))) (wSeq (wRet (wCall (fun ds Q E => W_scoresO (permL [0] ds) Q E) (wCons (wIx (wVar 1) (wC (.int 0))) wNil)))
  wNext) wNext)
  (wSeq (wIf (wTest (wOp (roEq false) (wVar 0) (wC (.int 4)))) (wSeq (wRet (wCall (fun ds Q E => W_plain_scores (permL [0] ds) Q E) (wCons (wIx (wVar 1) (wC (.int 0))) wNil)))
  wNext) wNext)
  (wSeq (wRet (wCall (fun ds Q E => W_quick_field (permL [0] ds) Q E) (wCons (wIx (wVar 1) (wC (.int 0))) wNil)))
  wNext))))))
/-- _law_called -/
def p_law_called : DS :=
  (wSeq (wTry (caSE errs) 2 (wSeq (wRet (wTupD (wCons (wC (.str "answer")) (wCons (wCall W_law_ask (wCons (wVar 0) (wCons (wVar 1) wNil))) wNil))))
  wNext) (fun a oe => (wSeq (wRet (wTup (wCons (wC (.str "refused")) (wCons (wCall (W_law_refused (a, oe)) (wCons (wVar 2) wNil)) wNil))))
  wNext)))
  wNext)
/-- _law_right -/
def p_law_right : DS :=
  (wSeq (wSet 2 (wCall W_law_due (wCons (wVar 0) (wCons (wVar 1) wNil))))
  (wSeq (wSet 3 (wFrz (wCall (W_law_as_table 5) (wCons (wVar 1) wNil))))
  (wSeq (wFor (wRng1 (wCons (wC (.int 2)) wNil)) (dgName 4) (wSeq (wSet 5 (wLcO 7 (wRng1 (wCons (wLen (wCons (wVar 1) wNil)) wNil)) wTrue (wIfE (wTest (wCall W_law_is_model (wCons (wIx (wVar 1) (wVar 7)) wNil))) (wIx (wVar 3) (wVar 7)) (wCall (W_law_as_table 5) (wCons (wIx (wVar 1) (wVar 7)) wNil)))))
  (wSeq (wSet 6 (wLendID [true, false, false, false, false, true, false, false] (wCall W_law_called (wCons (wVar 0) (wCons (wVar 5) wNil)))))
  (wSeq (wIf (wOrB (wTest (wOp (roEq true) (wLendI [false, false, false, false, false, false, true, false] (wIx (wVar 6) (wC (.int 0)))) (wIx (wVar 2) (wC (.int 0))))) (wOrB (wNotB (wTest (wLendI [false, false, true, false, false, false, true, false] (wCall (W_law_meets 6) (wCons (wIx (wVar 6) (wC (.int 1))) (wCons (wIx (wVar 2) (wC (.int 1))) wNil)))))) (wNotB (wTest (wLendI [false, true, false, false, false, true, false, false] (wCall (W_law_meets 6) (wCons (wVar 5) (wCons (wVar 1) wNil)))))))) (wSeq (wRet (wC (.bl false)))
  wNext) wNext)
  (wSeq (wSpoilVI 5 5)
  (wSeq (wIf (wNotB (wTest (wLendI [false, false, true, false, false, false, true, false] (wCall (W_law_meets 6) (wCons (wIx (wVar 6) (wC (.int 1))) (wCons (wIx (wVar 2) (wC (.int 1))) wNil)))))) (wSeq (wRet (wC (.bl false)))
  wNext) wNext)
  (wSeq (wSpoilEI 5 (wMvIx 6 1))
  wNext)))))))
  (wSeq (wRet (wC (.bl true)))
  wNext))))
/-- _law_signs -/
def p_law_signs : DS :=
  (wSeq (wRet (wCall W_law_as_row (wCons (wVar 0) (wCons (wLc 2 (wItemsL (wIx (wVar 1) (wC (.int 1)))) wTrue (wSub (wC (.int 1)) (wMul (wC (.int 2)) (wVar 2)))) wNil))))
  wNext)
/-- _law_shared -/
def p_law_shared : DS :=
  (wSeq (wSet 2 (wFrz (wCall (W_law_as_table 5) (wCons (wVar 1) wNil))))
  (wSeq (wSet 3 (wLc 8 (wItemsL (wVar 1)) wTrue (wIx (wCall W_law_due (wCons (wC (.int 0)) (wCons (wLst (wCons (wVar 8) wNil)) wNil))) (wC (.int 1)))))
  (wSeq (wFor (wRng1 (wCons (wC (.int 6)) wNil)) (dgName 4) (wSeq (wSet 5 (wCall W_law_take (wCons (wVar 0) (wCons (wC (.int 2)) wNil))))
  (wSeq (wSet 6 (wCall W_law_take (wCons (wVar 0) (wCons (wC (.int 3)) wNil))))
  (wSeq (wIf (wTest (wOp (roEq false) (wVar 6) (wC (.int 2)))) (wSeq (wSet 7 (wCall W_quick_field (wCons (wMeth "Table" "signs" W_Table_signs (wIx (wVar 2) (wVar 5)) wNil) wNil)))
  wNext) (wSeq (wSet 7 (wCall W_law_ask (wCons (wVar 6) (wCons (wLst (wCons (wIx (wVar 2) (wVar 5)) wNil)) wNil))))
  wNext))
  (wSeq (wIf (wNotB (wTest (wLend [false, false, false, true, false, true, false, true, false] (wCall (W_law_sameD 6) (wCons (wVar 7) (wCons (wIx (wVar 3) (wVar 5)) wNil)))))) (wSeq (wRet (wC (.bl false)))
  wNext) wNext)
  (wSeq (wSpoilVI 5 7)
  wNext))))))
  (wSeq (wRet (wCall (W_law_meets 6) (wCons (wVar 2) (wCons (wVar 1) wNil))))
  wNext))))
/-- the law behind its first statement -/
def p_law : DS :=
  (wSeq (wSet 2 (wCall W_law_model (wCons (wVar 1) (wCons (wC (.int 6)) wNil))))
  (wSeq (wFor (wRng1 (wCons (wC (.int 2)) wNil)) (dgName 3) (wSeq (wIf (wNotB (wTest (wCall W_law_right (wCons (wOp roAdd (wVar 3) (wMul (wC (.int 3)) (wCall W_law_take (wCons (wVar 1) (wCons (wC (.int 2)) wNil))))) (wCons (wLst (wCons (wVar 2) wNil)) wNil))))) (wSeq (wRet (wC (.bl false)))
  wNext) wNext)
  wNext))
  (wSeq (wIf (wNotB (wTest (wCall W_law_right (wCons (wOp roAdd (wC (.int 2)) (wMul (wC (.int 3)) (wCall W_law_take (wCons (wVar 1) (wCons (wC (.int 2)) wNil))))) (wCons (wLst (wCons (wCall W_law_signs (wCons (wVar 1) (wCons (wVar 2) wNil))) wNil)) wNil))))) (wSeq (wRet (wC (.bl false)))
  wNext) wNext)
  (wSeq (wFor (wRng1 (wCons (wC (.int 2)) wNil)) (dgName 4) (wSeq (wSet 5 (wCall W_law_model (wCons (wVar 1) (wCons (wC (.int 6)) wNil))))
  (wSeq (wSet 3 (wCall W_law_take (wCons (wVar 1) (wCons (wC (.int 2)) wNil))))
  (wSeq (wSet 6 (wMul (wC (.int 3)) (wCall W_law_take (wCons (wVar 1) (wCons (wC (.int 2)) wNil)))))
  (wSeq (wSet 7 (wCall W_law_signs (wCons (wVar 1) (wCons (wVar 5) wNil))))
  (wSeq (wIf (wOrB (wNotB (wTest (wCall W_law_right (wCons (wOp roAdd (wVar 6) (wVar 3)) (wCons (wLst (wCons (wCall W_law_odd_tableM (wCons (wVar 1) (wCons (wVar 5) wNil))) wNil)) wNil))))) (wNotB (wTest (wCall W_law_right (wCons (wOp roAdd (wVar 6) (wVar 3)) (wCons (wLst (wCons (wVar 5) wNil)) wNil)))))) (wSeq (wRet (wC (.bl false)))
  wNext) wNext)
  (wSeq (wIf (wOrB (wNotB (wTest (wCall W_law_right (wCons (wOp roAdd (wVar 6) (wC (.int 2))) (wCons (wLst (wCons (wCall W_law_odd_fieldX (wCons (wVar 1) (wCons (wList (wCons (wVar 7) wNil)) wNil))) wNil)) wNil))))) (wNotB (wTest (wCall W_law_right (wCons (wOp roAdd (wVar 6) (wC (.int 2))) (wCons (wLst (wCons (wVar 7) wNil)) wNil)))))) (wSeq (wRet (wC (.bl false)))
  wNext) wNext)
  wNext)))))))
  (wSeq (wRet (wCall W_law_shared (wCons (wVar 1) (wCons (wLst (wCons (wCall W_law_model (wCons (wVar 1) (wCons (wC (.int 4)) wNil))) (wCons (wCall W_law_model (wCons (wVar 1) (wCons (wC (.int 4)) wNil))) wNil))) wNil))))
  wNext)))))
end C
set_option maxRecDepth 100000
/-! D-level programs, printed by gen_defs.py -/
namespace C
open PySem PySem.Spec PyProof.Rows L2 NdefX DL
end C
set_option Elab.async false
set_option maxRecDepth 100000
set_option maxHeartbeats 1000000
set_option linter.unusedVariables false
namespace C
open PySem PySem.Spec PyProof.Rows L2 NdefX DL
local macro_rules | `(tactic| walk_at "dl") => `(tactic| simp only [wSeq, wLc, wTrue, wRaise0, wRaiseL, wSplit, wJoin, wFs, wSlS1, wSlS2, wAug, wItemsC, wEnum, pStr, fStr, pIntS, fIntS, roInS, orF, NoExc, dgTwo, wItemsT, wSlS0, wIsdig, roMulS, roInL, wIndexS, wSum, pSum, fSum, lk_wide, lk_held, okT_T, wFld, wGet, wMeth, wOwn2, wOwnI, wOwn1, wOwnLen, wOwnStr, wRevT, wZip, wItemsLT, wTupD, wLstD, wMv, isOwn, insOf, iStm, iFld, iEnd, pSumT, fSumT, wNever, tb, eq_self, exists_eq_left', Option.some.injEq, lackN, wTruth, wMinL, roMinL, wEnum, wSlTo, wSlFrom, wPopAt, wLenO, wApp, fillD, List.getD_cons_zero, List.getD_cons_succ, dgPt, ptD, ptsD, wUnp, wLcP, outs, ptIx, ptsIx, stillS_un, stillS_sh, backs, ends, wListR, wCountO, wFrz,  wIf, wNext, wBreak, wCont, wRet, wRetN, wDrop, wSet, wTest, wAndB, wOrB, wNotB, wIsi, wVar, wC, wOp, wRaise, wCall, wCons, wNil, wFun, wPar, wTup, wNeg, wUn, wIfE, wAndV, wOrV, wNotV, wUnp2, wLst, wIxO, wLenO, wSetIx, wAppend, wDic0, wFor, wItemsL, wItemsS, wRng1, wRng2, wListRev, dgName, roAdd, roI, roI0, roB, roIx, roIsN, roF, roL, datas, List.map_cons, List.map_nil, entry, List.length_cons, List.length_nil, List.cons_append, List.nil_append, List.replicate, List.replicate_succ, List.replicate_zero, Nat.reduceAdd, Nat.reduceSub, Nat.zero_add,
  List.getElem?_cons_zero, List.getElem?_cons_succ, List.set_cons_zero, List.set_cons_succ, dat_sh, dat_ow, dat_dp, DL.isInt, DL.isBool, DL.isStr, DL.isLst, DL.isTup, PinD, Bool.not_true, Bool.not_false, Bool.false_eq_true, if_true, if_false, true_and, and_true, OkAD, bodyEnds, pInt1, pInt2, fAbs, fMin, fMax, pIntOf, fIntOf, pLen, fLen, pSeq, fSeq, reduceIte, decide_eq_true_eq, ite_true, ite_false, Bool.and_eq_true, Bool.not_eq_true', roEq_int, Bool.true_xor, Bool.false_xor, Bool.true_eq_false])
theorem noLs_map' {α : Type} (f : α → D) (h : ∀ a, NoL (f a) = true) : ∀ l : List α, NoLs (l.map f) = true
  | [] => rfl
  | a :: l => by
    show (NoL (f a) && NoLs (l.map f)) = true
    rw [h a, noLs_map' f h l]; rfl
theorem noLs_nD' (l : List Nat) : NoLs (nD l) = true := noLs_map' _ (fun _ => rfl) l
end C
set_option maxRecDepth 100000
/-! D-level programs, printed by gen_defs.py -/
namespace C
open PySem PySem.Spec PyProof.Rows L2 NdefX DL
end C
set_option Elab.async false
set_option maxRecDepth 100000
set_option maxHeartbeats 1000000
set_option linter.unusedVariables false
namespace C
open PySem PySem.Spec PyProof.Rows L2 NdefX DL
local macro_rules | `(tactic| walk_at "dl") => `(tactic| simp only [wSeq, wLc, wTrue, wRaise0, wRaiseL, wSplit, wJoin, wFs, wSlS1, wSlS2, wAug, wItemsC, wEnum, pStr, fStr, pIntS, fIntS, roInS, orF, NoExc, dgTwo, wItemsT, wSlS0, wIsdig, roMulS, roInL, wIndexS, wSum, pSum, fSum, lk_wide, lk_held, okT_T, wFld, wGet, wMeth, wOwn2, wOwnI, wOwn1, wOwnLen, wOwnStr, wRevT, wZip, wItemsLT, wTupD, wLstD, wMv, isOwn, insOf, iStm, iFld, iEnd, pSumT, fSumT, wNever, tb, eq_self, exists_eq_left', Option.some.injEq, lackN, wTruth, wMinL, roMinL, wEnum, wSlTo, wSlFrom, wPopAt, wLenO, wApp, fillD, List.getD_cons_zero, List.getD_cons_succ, dgPt, ptD, ptsD, wRng3, wUnp, wLcP, outs, ptIx, ptsIx, stillS_un, stillS_sh, backs, ends, wListR, wCountO, wFrz,  wIf, wNext, wBreak, wCont, wRet, wRetN, wDrop, wSet, wTest, wAndB, wOrB, wNotB, wIsi, wVar, wC, wOp, wRaise, wCall, wCons, wNil, wFun, wPar, wTup, wNeg, wUn, wIfE, wAndV, wOrV, wNotV, wUnp2, wLst, wIxO, wLenO, wSetIx, wAppend, wDic0, wFor, wItemsL, wItemsS, wRng1, wRng2, wListRev, dgName, roAdd, roI, roI0, roB, roIx, roIsN, roF, roL, datas, List.map_cons, List.map_nil, entry, List.length_cons, List.length_nil, List.cons_append, List.nil_append, List.replicate, List.replicate_succ, List.replicate_zero, Nat.reduceAdd, Nat.reduceSub, Nat.zero_add,
  List.getElem?_cons_zero, List.getElem?_cons_succ, List.set_cons_zero, List.set_cons_succ, dat_sh, dat_ow, dat_dp, DL.isInt, DL.isBool, DL.isStr, DL.isLst, DL.isTup, PinD, Bool.not_true, Bool.not_false, Bool.false_eq_true, if_true, if_false, true_and, and_true, OkAD, bodyEnds, pInt1, pInt2, fAbs, fMin, fMax, pIntOf, fIntOf, pLen, fLen, pSeq, fSeq, reduceIte, decide_eq_true_eq, ite_true, ite_false, Bool.and_eq_true, Bool.not_eq_true', roEq_int, Bool.true_xor, Bool.false_xor, Bool.true_eq_false])
end C
set_option Elab.async false
set_option maxRecDepth 100000
set_option maxHeartbeats 1000000
set_option linter.unusedVariables false
namespace C
open PySem PySem.Spec PyProof.Rows L2 NdefX DL
local macro_rules | `(tactic| walk_at "dl") => `(tactic| simp only [wSeq, wLc, wTrue, wRaise0, wRaiseL, wSplit, wJoin, wFs, wSlS1, wSlS2, wAug, wItemsC, wEnum, pStr, fStr, pIntS, fIntS, roInS, orF, NoExc, dgTwo, wItemsT, wSlS0, wIsdig, roMulS, roInL, wIndexS, wSum, pSum, fSum, lk_wide, lk_held, okT_T, wFld, wGet, wMeth, wOwn2, wOwnI, wOwn1, wOwnLen, wOwnStr, wRevT, wZip, wItemsLT, wTupD, wLstD, wMv, isOwn, insOf, iStm, iFld, iEnd, pSumT, fSumT, wNever, tb, eq_self, exists_eq_left', Option.some.injEq, lackN, wTruth, wMinL, roMinL, wEnum, wSlTo, wSlFrom, wPopAt, wLenO, wApp, fillD, List.getD_cons_zero, List.getD_cons_succ, dgPt, ptD, ptsD, wRng3, wUnp, wLcP, outs, ptIx, ptsIx, stillS_un, stillS_sh, backs, ends, wListR, wCountO, wFrz,  wIf, wNext, wBreak, wCont, wRet, wRetN, wDrop, wSet, wTest, wAndB, wOrB, wNotB, wIsi, wVar, wC, wOp, wRaise, wCall, wCons, wNil, wFun, wPar, wTup, wNeg, wUn, wIfE, wAndV, wOrV, wNotV, wUnp2, wLst, wIxO, wLenO, wSetIx, wAppend, wDic0, wFor, wItemsL, wItemsS, wRng1, wRng2, wListRev, dgName, roAdd, roI, roI0, roB, roIx, roIsN, roF, roL, datas, List.map_cons, List.map_nil, entry, List.length_cons, List.length_nil, List.cons_append, List.nil_append, List.replicate, List.replicate_succ, List.replicate_zero, Nat.reduceAdd, Nat.reduceSub, Nat.zero_add,
  List.getElem?_cons_zero, List.getElem?_cons_succ, List.set_cons_zero, List.set_cons_succ, dat_sh, dat_ow, dat_dp, DL.isInt, DL.isBool, DL.isStr, DL.isLst, DL.isTup, PinD, Bool.not_true, Bool.not_false, Bool.false_eq_true, if_true, if_false, true_and, and_true, OkAD, bodyEnds, pInt1, pInt2, fAbs, fMin, fMax, pIntOf, fIntOf, pLen, fLen, pSeq, fSeq, reduceIte, decide_eq_true_eq, ite_true, ite_false, Bool.and_eq_true, Bool.not_eq_true', roEq_int, Bool.true_xor, Bool.false_xor, Bool.true_eq_false])
end C
set_option Elab.async false
set_option maxRecDepth 100000
set_option maxHeartbeats 1000000
set_option linter.unusedVariables false
namespace C
open PySem PySem.Spec PyProof.Rows L2 NdefX DL
local macro_rules | `(tactic| walk_at "dl") => `(tactic| simp only [wSeq, wLc, wTrue, wRaise0, wRaiseL, wSplit, wJoin, wFs, wSlS1, wSlS2, wAug, wItemsC, wEnum, pStr, fStr, pIntS, fIntS, roInS, orF, NoExc, dgTwo, wItemsT, wSlS0, wIsdig, roMulS, roInL, wIndexS, wSum, pSum, fSum, lk_wide, lk_held, okT_T, wFld, wGet, wMeth, wOwn2, wOwnI, wOwn1, wOwnLen, wOwnStr, wRevT, wZip, wItemsLT, wTupD, wLstD, wMv, isOwn, insOf, iStm, iFld, iEnd, pSumT, fSumT, wNever, tb, eq_self, exists_eq_left', Option.some.injEq, lackN, wTruth, wMinL, roMinL, wEnum, wSlTo, wSlFrom, wPopAt, wLenO, wApp, fillD, List.getD_cons_zero, List.getD_cons_succ, dgPt, ptD, ptsD, wRng3, wUnp, wLcP, outs, ptIx, ptsIx, stillS_un, stillS_sh, backs, ends, wListR, wCountO, wFrz,  wIf, wNext, wBreak, wCont, wRet, wRetN, wDrop, wSet, wTest, wAndB, wOrB, wNotB, wIsi, wVar, wC, wOp, wRaise, wCall, wCons, wNil, wFun, wPar, wTup, wNeg, wUn, wIfE, wAndV, wOrV, wNotV, wUnp2, wLst, wIxO, wLenO, wSetIx, wAppend, wDic0, wFor, wItemsL, wItemsS, wRng1, wRng2, wListRev, dgName, roAdd, roI, roI0, roB, roIx, roIsN, roF, roL, datas, List.map_cons, List.map_nil, entry, List.length_cons, List.length_nil, List.cons_append, List.nil_append, List.replicate, List.replicate_succ, List.replicate_zero, Nat.reduceAdd, Nat.reduceSub, Nat.zero_add,
  List.getElem?_cons_zero, List.getElem?_cons_succ, List.set_cons_zero, List.set_cons_succ, dat_sh, dat_ow, dat_dp, DL.isInt, DL.isBool, DL.isStr, DL.isLst, DL.isTup, PinD, Bool.not_true, Bool.not_false, Bool.false_eq_true, if_true, if_false, true_and, and_true, OkAD, bodyEnds, pInt1, pInt2, fAbs, fMin, fMax, pIntOf, fIntOf, pLen, fLen, pSeq, fSeq, reduceIte, decide_eq_true_eq, ite_true, ite_false, Bool.and_eq_true, Bool.not_eq_true', roEq_int, Bool.true_xor, Bool.false_xor, Bool.true_eq_false])
end C
set_option maxRecDepth 100000
/-! D-level programs, printed by gen_defs.py -/
namespace C
open PySem PySem.Spec PyProof.Rows L2 NdefX DL
/-- whole -/
def p_whole : DS :=
  (wSeq (wRet (wAndV (wIsi (insF okI isInt) [] (wVar 0)) (wNotV (wIsi (insF okI isBool) [] (wVar 0)))))
  wNext)
/-- check_row_shades -/
def p_check_row_shades : DS :=
  (wSeq (wIf (wNotB (wTest (wIsi (orF (insF okI isLst) (insF okI isTup)) [] (wVar 0)))) (wSeq (wRaise "WrongKind" (wVar 1))
  wNext) wNext)
  wNext)
/-- _law_as_row -/
def p_law_as_row : DS :=
  (wSeq (wIf (wTest (wOp (roEq false) (wCall W_law_take (wCons (wVar 0) (wCons (wC (.int 2)) wNil))) (wC (.int 0)))) (wSeq (wRet (wList (wCons (wVar 1) wNil)))
  wNext) wNext)
  (wSeq (wRet (wTuple (wCons (wVar 1) wNil)))
  wNext))
end C
set_option Elab.async false
set_option maxRecDepth 100000
set_option maxHeartbeats 1000000
set_option linter.unusedVariables false
namespace C
open PySem PySem.Spec PyProof.Rows L2 NdefX DL
local macro_rules | `(tactic| walk_at "dl") => `(tactic| simp only [wSeq, wLc, wTrue, wRaise0, wRaiseL, wSplit, wJoin, wFs, wSlS1, wSlS2, wAug, wItemsC, wEnum, pStr, fStr, pIntS, fIntS, roInS, orF, NoExc, dgTwo, wItemsT, wSlS0, wIsdig, roMulS, roInL, wIndexS, wSum, pSum, fSum, lk_wide, lk_held, okT_T, wFld, wGet, wMeth, wOwn2, wOwnI, wOwn1, wOwnLen, wOwnStr, wRevT, wZip, wItemsLT, wTupD, wLstD, wMv, isOwn, insOf, iStm, iFld, iEnd, pSumT, fSumT, wNever, tb, eq_self, exists_eq_left', Option.some.injEq, lackN, wTruth, wMinL, roMinL, wEnum, wSlTo, wSlFrom, wPopAt, wLenO, wApp, fillD, List.getD_cons_zero, List.getD_cons_succ, dgPt, ptD, ptsD, wRng3, wUnp, wLcP, outs, ptIx, ptsIx, stillS_un, stillS_sh, backs, ends, wListR, wCountO, wFrz,  wIf, wNext, wBreak, wCont, wRet, wRetN, wDrop, wSet, wTest, wAndB, wOrB, wNotB, wIsi, wVar, wC, wOp, wRaise, wCall, wCons, wNil, wFun, wPar, wTup, wNeg, wUn, wIfE, wAndV, wOrV, wNotV, wUnp2, wLst, wIxO, wLenO, wSetIx, wAppend, wDic0, wFor, wItemsL, wItemsS, wRng1, wRng2, wListRev, dgName, roAdd, roI, roI0, roB, roIx, roIsN, roF, roL, datas, List.map_cons, List.map_nil, entry, List.length_cons, List.length_nil, List.cons_append, List.nil_append, List.replicate, List.replicate_succ, List.replicate_zero, Nat.reduceAdd, Nat.reduceSub, Nat.zero_add,
  List.getElem?_cons_zero, List.getElem?_cons_succ, List.set_cons_zero, List.set_cons_succ, dat_sh, dat_ow, dat_dp, DL.isInt, DL.isBool, DL.isStr, DL.isLst, DL.isTup, PinD, Bool.not_true, Bool.not_false, Bool.false_eq_true, if_true, if_false, true_and, and_true, OkAD, bodyEnds, pInt1, pInt2, fAbs, fMin, fMax, pIntOf, fIntOf, pLen, fLen, pSeq, fSeq, reduceIte, decide_eq_true_eq, ite_true, ite_false, Bool.and_eq_true, Bool.not_eq_true', roEq_int, Bool.true_xor, Bool.false_xor, Bool.true_eq_false])
/-! ### words of use for rows -/
theorem in_nats {m : Nat} : ∀ {us : List Nat}, inV (V.int (m : Nat)) (us.map fun (u : Nat) => V.int (u : Nat)) = decide (m ∈ us)
  | [] => rfl
  | u :: us => by
    show (((u : Nat) : Int) == (m : Nat) || inV (V.int (m : Nat)) (us.map fun (u : Nat) => V.int (u : Nat))) = _
    rw [in_nats (us := us)]
    by_cases h : u = m
    · subst h
      rw [beq_self_eq_true, Bool.true_or, decide_eq_true List.mem_cons_self]
    · have h2 : (((u : Nat) : Int) == (m : Nat)) = false := by rw [beq_eq_false_iff_ne]; omega
      rw [h2, Bool.false_or]
      by_cases h3 : m ∈ us
      · rw [decide_eq_true h3, decide_eq_true (List.mem_cons_of_mem _ h3)]
      · rw [decide_eq_false h3, decide_eq_false (fun z => (List.mem_cons.mp z).elim (fun z => h z.symm) h3)]
theorem flats_nD : ∀ us : List Nat, flatsOf (nD us) = some (us.map fun (u : Nat) => V.int (u : Nat))
  | [] => rfl
  | u :: us => by
    show (match flatOf (.int (u : Nat)), flatsOf (nD us) with | some v, some vs => some (v :: vs) | _, _ => none) = _
    rw [flats_nD us]; rfl
theorem wIsi_var {f : D → Option Bool} {pn : List (Addr × Obj)} {i : Nat} {d : D} {b : Bool} {ρ : DEnv} {Q : Sl → DEnv → Prop} {E : EC} (hi : ρ[i]? = some (.sh d)) (hs : ρ.set i (.sh d) = ρ) (hf : f d = some b) (hp : PinD pn d) (q : Q (.sh (.bl b)) ρ) : wIsi f pn (wVar i) ρ Q E := by
  unfold wIsi wVar
  rw [hi]
  simp only [dat_sh, hf, hs]
  exact ⟨hp, q⟩
theorem rowJ_cases {d : D} {a b : Int} {o : Option Str} (h : rowJ d a b = some o) : (∃ l, (d = .lst l ∨ d = .tup l) ∧ orF (insF okI isLst) (insF okI isTup) d = some true ∧ PinD [] d ∧ o = if (l.length : Int) < a ∨ b < l.length then some ("WrongSize" : Str) else none) ∨ (isJ d = some false ∧ orF (insF okI isLst) (insF okI isTup) d = some false ∧ PinD [] d ∧ (∀ l, d ≠ .lst l) ∧ (∀ l, d ≠ .tup l) ∧ o = some "WrongKind") ∨ ((∃ i, d = .int i) ∧ orF (insF okI isLst) (insF okI isTup) d = some false ∧ PinD [] d ∧ o = some "WrongKind") := by
  cases d with
  | lst l => injection h with h; exact .inl ⟨l, .inl rfl, rfl, trivial, h.symm⟩
  | tup l => injection h with h; exact .inl ⟨l, .inr rfl, rfl, trivial, h.symm⟩
  | int i => injection h with h; exact .inr (.inr ⟨⟨i, rfl⟩, rfl, trivial, h.symm⟩)
  | ins c fs ds =>
    cases hc : okI c with
    | true =>
      have e : isJ (.ins c fs ds) = some false := if_pos hc
      have e2 : rowJ (.ins c fs ds) a b = (isJ (.ins c fs ds)).map fun _ => some ("WrongKind" : Str) := rfl
      rw [e2, e] at h
      injection h with h
      have e3 : ∀ f : D → Option Bool, insF okI f (.ins c fs ds) = some false := fun f => if_pos hc
      refine .inr (.inl ⟨e, ?_, trivial, (fun l z => by cases z), (fun l z => by cases z), h.symm⟩)
      simp only [orF, NoExc, e3, if_true, Bool.or_false]
    | false =>
      have e : isJ (.ins c fs ds) = none := if_neg (by rw [hc]; decide)
      have e2 : rowJ (.ins c fs ds) a b = (isJ (.ins c fs ds)).map fun _ => some ("WrongKind" : Str) := rfl
      rw [e2, e] at h; cases h
  | non => injection h with h; exact .inr (.inl ⟨rfl, rfl, trivial, (fun l z => by cases z), (fun l z => by cases z), h.symm⟩)
  | bl _ => injection h with h; exact .inr (.inl ⟨rfl, rfl, trivial, (fun l z => by cases z), (fun l z => by cases z), h.symm⟩)
  | str _ => injection h with h; exact .inr (.inl ⟨rfl, rfl, trivial, (fun l z => by cases z), (fun l z => by cases z), h.symm⟩)
  | dic _ _ => injection h with h; exact .inr (.inl ⟨rfl, rfl, trivial, (fun l z => by cases z), (fun l z => by cases z), h.symm⟩)
  | exc _ _ _ _ => cases h
  | sto => cases h
  | scr _ => cases h
/-! ### the shades' own checks -/
theorem isJ_walk {d : D} {b : Bool} (h : isJ d = some b) : PinD [] d ∧ ((∃ i, d = .int i ∧ b = true) ∨ (b = false ∧ ∀ i, d ≠ .int i)) := by
  cases d with
  | int i => injection h with h; exact ⟨trivial, .inl ⟨i, rfl, h.symm⟩⟩
  | ins c fs ds =>
    cases hc : okI c with
    | true =>
      have e : isJ (.ins c fs ds) = some false := if_pos hc
      rw [e] at h; injection h with h
      exact ⟨trivial, .inr ⟨h.symm, fun i z => by cases z⟩⟩
    | false =>
      have e : isJ (.ins c fs ds) = none := if_neg (by rw [hc]; decide)
      rw [e] at h; cases h
  | exc _ _ _ _ => cases h
  | sto => cases h
  | scr _ => cases h
  | _ => injection h with h; exact ⟨trivial, .inr ⟨h.symm, fun i z => by cases z⟩⟩
theorem sat_whole : ∀ ds Q E', W_whole ds Q E' → p_whole (bodyEnds Q) (entry 1 ds) (fun e _ => E' e) := by
  rintro ds Q E' ⟨d, b, rfl, hd, hq⟩
  have hp := (isJ_walk hd).1
  have key : ∃ a c, insF okI isInt d = some a ∧ insF okI isBool d = some c ∧ b = (a && !c) := by
    cases d with
    | ins c fs ds =>
      cases hc : okI c with
      | true =>
        have e : isJ (.ins c fs ds) = some false := if_pos hc
        rw [e] at hd; injection hd with hd
        exact ⟨false, false, if_pos hc, if_pos hc, hd.symm⟩
      | false =>
        have e : isJ (.ins c fs ds) = none := if_neg (by rw [hc]; decide)
        rw [e] at hd; cases hd
    | exc _ _ _ _ => cases hd
    | sto => cases hd
    | scr _ => cases hd
    | _ => injection hd with hd; exact ⟨_, _, rfl, rfl, hd.symm⟩
  obtain ⟨a, c, ha, hc, rfl⟩ := key
  unfold p_whole
  refine wSeq_i ?_
  unfold wRet wAndV wNotV
  refine wIsi_var rfl rfl ha hp ?_
  simp only [dat_sh]
  cases a with
  | false => simp only [Bool.false_eq_true, if_false]; exact bodyR hq
  | true =>
    simp only [if_true]
    refine wIsi_var rfl rfl hc hp ?_
    simp only [dat_sh]
    exact bodyR hq
theorem sat_check_row_shades : ∀ ds Q E', W_check_row_shades ds Q E' → p_check_row_shades (bodyEnds Q) (entry 2 ds) (fun e _ => E' e) := by
  intro ds Q E' h
  have hl := len_check_row_shades ds Q E' h
  match ds, hl, h with
  | [d, y], _, h =>
    cases y with
    | str z =>
      have hz : z.length ≤ 1000 := by
        by_cases hz : z.length ≤ 1000
        · exact hz
        · unfold W_check_row_shades WF f_rowS at h
          simp only [if_neg hz] at h
      have hz2 : z.length ≤ 100000 := by omega
      have hk : (∃ o, rowJ d 0 100000000 = some o) ∧ ((∃ l, d = .lst l ∨ d = .tup l) → Q (.sh .non)) ∧ ((∀ l, d ≠ .lst l) → (∀ l, d ≠ .tup l) → E' (Er1 "WrongKind" z)) := by
        unfold W_check_row_shades WF f_rowS at h
        simp only [if_pos hz] at h
        cases d with
        | lst l => exact ⟨⟨_, rfl⟩, fun _ => h, fun k => (k l rfl).elim⟩
        | tup l => exact ⟨⟨_, rfl⟩, fun _ => h, fun _ k => (k l rfl).elim⟩
        | ins c fs ds =>
          cases hc : okI c with
          | true =>
            have e : isJ (.ins c fs ds) = some false := if_pos hc
            have e2 : rowJ (.ins c fs ds) 0 100000000 = (isJ (.ins c fs ds)).map fun _ => some ("WrongKind" : Str) := rfl
            rw [e] at e2
            simp only [e, Option.map_some] at h
            exact ⟨⟨_, e2⟩, (fun ⟨l, k⟩ => by rcases k with k | k <;> cases k), fun _ _ => h⟩
          | false =>
            have e : isJ (.ins c fs ds) = none := if_neg (by rw [hc]; decide)
            simp only [e, Option.map_none] at h
        | exc _ _ _ _ => exact (show False from h).elim
        | sto => exact (show False from h).elim
        | scr _ => exact (show False from h).elim
        | _ => exact ⟨⟨_, rfl⟩, (fun ⟨l, k⟩ => by rcases k with k | k <;> cases k), fun _ _ => h⟩
      obtain ⟨⟨o, hr⟩, h1, h2⟩ := hk
      unfold p_check_row_shades
      refine wSeq_k ?_
      intro N1 hN1
      refine wIf_k ?_
      intro A1 B1 hA1 hB1
      unfold wNotB wTest
      rcases rowJ_cases hr with ⟨l, hd, hf, hp, _⟩ | ⟨_, hf, hp, n1, n2, _⟩ | ⟨⟨i, e⟩, hf, hp, _⟩
      · refine wIsi_var rfl rfl hf hp ?_
        try walk_at "dl"
        refine hB1 _ ?_
        walk_at "dl"
        refine hN1 _ ?_
        clear hN1
        walk_at "dl"
        exact bodyR (h1 ⟨l, hd⟩)
      · refine wIsi_var rfl rfl hf hp ?_
        try walk_at "dl"
        refine hA1 _ ?_
        walk_at "dl"
        exact ⟨hz2, h2 n1 n2⟩
      · refine wIsi_var rfl rfl hf hp ?_
        try walk_at "dl"
        refine hA1 _ ?_
        walk_at "dl"
        exact ⟨hz2, h2 (fun l k => by rw [e] at k; cases k) (fun l k => by rw [e] at k; cases k)⟩
    | _ => exact (show False from h).elim
/-! ### drawn rows -/
theorem sat_law_as_row : ∀ ds Q E', W_law_as_row ds Q E' → p_law_as_row (bodyEnds Q) (entry 2 ds) (fun e _ => E' e) := by
  rintro ds Q E' ⟨l, rfl, h1, h2⟩
  unfold p_law_as_row
  refine wSeq_k ?_
  intro N1 hN1
  walk_at "dl"
  refine call_take bd_lit fun k k0 k1 => ?_
  try walk_at "dl"
  by_cases c : k = 0
  · rw [if_pos c]
    exact fun p => ⟨_, .sh _ (fun z => by cases z), h1⟩
  rw [if_neg c]
  refine hN1 _ ?_
  clear hN1
  refine wSeq_i ?_
  walk_at "dl"
  simp only [roTup]
  exact bodyR h2
theorem call_asrow {l : List D} {Q : Sl → Prop} {E : Er → Prop} (h1 : Q (.sh (.lst l))) (h2 : Q (.sh (.tup l))) : W_law_as_row [.sto, .lst l] Q E := ⟨l, rfl, h1, h2⟩
end C
set_option Elab.async false
set_option maxRecDepth 100000
set_option maxHeartbeats 1000000
set_option linter.unusedVariables false
namespace C
open PySem PySem.Spec PyProof.Rows L2 NdefX DL
local macro_rules | `(tactic| walk_at "dl") => `(tactic| simp only [wSeq, wLc, wTrue, wRaise0, wRaiseL, wSplit, wJoin, wFs, wSlS1, wSlS2, wAug, wItemsC, wEnum, pStr, fStr, pIntS, fIntS, roInS, orF, NoExc, dgTwo, wItemsT, wSlS0, wIsdig, roMulS, roInL, wIndexS, wSum, pSum, fSum, lk_wide, lk_held, okT_T, wFld, wGet, wMeth, wOwn2, wOwnI, wOwn1, wOwnLen, wOwnStr, wRevT, wZip, wItemsLT, wTupD, wLstD, wMv, isOwn, insOf, iStm, iFld, iEnd, pSumT, fSumT, wNever, tb, eq_self, exists_eq_left', Option.some.injEq, lackN, wTruth, wMinL, roMinL, wEnum, wSlTo, wSlFrom, wPopAt, wLenO, wApp, fillD, List.getD_cons_zero, List.getD_cons_succ, dgPt, ptD, ptsD, wRng3, wUnp, wLcP, outs, ptIx, ptsIx, stillS_un, stillS_sh, backs, ends, wListR, wCountO, wFrz,  wIf, wNext, wBreak, wCont, wRet, wRetN, wDrop, wSet, wTest, wAndB, wOrB, wNotB, wIsi, wVar, wC, wOp, wRaise, wCall, wCons, wNil, wFun, wPar, wTup, wNeg, wUn, wIfE, wAndV, wOrV, wNotV, wUnp2, wLst, wIxO, wLenO, wSetIx, wAppend, wDic0, wFor, wItemsL, wItemsS, wRng1, wRng2, wListRev, dgName, roAdd, roI, roI0, roB, roIx, roIsN, roF, roL, datas, List.map_cons, List.map_nil, entry, List.length_cons, List.length_nil, List.cons_append, List.nil_append, List.replicate, List.replicate_succ, List.replicate_zero, Nat.reduceAdd, Nat.reduceSub, Nat.zero_add,
  List.getElem?_cons_zero, List.getElem?_cons_succ, List.set_cons_zero, List.set_cons_succ, dat_sh, dat_ow, dat_dp, DL.isInt, DL.isBool, DL.isStr, DL.isLst, DL.isTup, PinD, Bool.not_true, Bool.not_false, Bool.false_eq_true, if_true, if_false, true_and, and_true, OkAD, bodyEnds, pInt1, pInt2, fAbs, fMin, fMax, pIntOf, fIntOf, pLen, fLen, pSeq, fSeq, reduceIte, decide_eq_true_eq, ite_true, ite_false, Bool.and_eq_true, Bool.not_eq_true', roEq_int, Bool.true_xor, Bool.false_xor, Bool.true_eq_false])
end C
set_option maxRecDepth 100000
/-! D-level programs, printed by gen_defs.py -/
namespace C
open PySem PySem.Spec PyProof.Rows L2 NdefX DL
end C
set_option Elab.async false
set_option maxRecDepth 100000
set_option maxHeartbeats 1000000
set_option linter.unusedVariables false
namespace C
open PySem PySem.Spec PyProof.Rows L2 NdefX DL
local macro_rules | `(tactic| walk_at "dl") => `(tactic| simp only [wSeq, wLc, wTrue, wRaise0, wRaiseL, wSplit, wJoin, wFs, wSlS1, wSlS2, wAug, wItemsC, wEnum, pStr, fStr, pIntS, fIntS, roInS, orF, NoExc, dgTwo, wItemsT, wSlS0, wIsdig, roMulS, roInL, wIndexS, wSum, pSum, fSum, lk_wide, lk_held, okT_T, wFld, wGet, wMeth, wOwn2, wOwnI, wOwn1, wOwnLen, wOwnStr, wRevT, wZip, wItemsLT, wTupD, wLstD, wMv, isOwn, insOf, iStm, iFld, iEnd, pSumT, fSumT, wNever, tb, eq_self, exists_eq_left', Option.some.injEq, lackN, wTruth, wMinL, roMinL, wEnum, wSlTo, wSlFrom, wPopAt, wLenO, wApp, fillD, List.getD_cons_zero, List.getD_cons_succ, dgPt, ptD, ptsD, wRng3, wUnp, wLcP, outs, ptIx, ptsIx, stillS_un, stillS_sh, backs, ends, wListR, wCountO, wFrz,  wIf, wNext, wBreak, wCont, wRet, wRetN, wDrop, wSet, wTest, wAndB, wOrB, wNotB, wIsi, wVar, wC, wOp, wRaise, wCall, wCons, wNil, wFun, wPar, wTup, wNeg, wUn, wIfE, wAndV, wOrV, wNotV, wUnp2, wLst, wIxO, wLenO, wSetIx, wAppend, wDic0, wFor, wItemsL, wItemsS, wRng1, wRng2, wListRev, dgName, roAdd, roI, roI0, roB, roIx, roIsN, roF, roL, datas, List.map_cons, List.map_nil, entry, List.length_cons, List.length_nil, List.cons_append, List.nil_append, List.replicate, List.replicate_succ, List.replicate_zero, Nat.reduceAdd, Nat.reduceSub, Nat.zero_add,
  List.getElem?_cons_zero, List.getElem?_cons_succ, List.set_cons_zero, List.set_cons_succ, dat_sh, dat_ow, dat_dp, DL.isInt, DL.isBool, DL.isStr, DL.isLst, DL.isTup, PinD, Bool.not_true, Bool.not_false, Bool.false_eq_true, if_true, if_false, true_and, and_true, OkAD, bodyEnds, pInt1, pInt2, fAbs, fMin, fMax, pIntOf, fIntOf, pLen, fLen, pSeq, fSeq, reduceIte, decide_eq_true_eq, ite_true, ite_false, Bool.and_eq_true, Bool.not_eq_true', roEq_int, Bool.true_xor, Bool.false_xor, Bool.true_eq_false])
theorem atD_gen {α : Type} (l : List α) (f : α → D) (z : α) {k : Nat} {ds : List D} (h : k < l.length) (e : ds = l.map f) : atD ds ((k : Nat) : Int) = some (f (l.getD k z)) := by
  subst e
  unfold atD atI
  rw [ix_in (by omega) (by rw [List.length_map]; omega), Int.toNat_natCast]
  show (l.map f)[k]? = _
  rw [List.getElem?_map, List.getElem?_eq_getElem h, List.getD_eq_getElem?_getD, List.getElem?_eq_getElem h]; rfl
end C
set_option Elab.async false
set_option maxRecDepth 100000
set_option maxHeartbeats 1000000
set_option linter.unusedVariables false
namespace C
open PySem PySem.Spec PyProof.Rows L2 NdefX DL
local macro_rules | `(tactic| walk_at "dl") => `(tactic| simp only [wSeq, wLc, wTrue, wRaise0, wRaiseL, wSplit, wJoin, wFs, wSlS1, wSlS2, wAug, wItemsC, wEnum, pStr, fStr, pIntS, fIntS, roInS, orF, NoExc, dgTwo, wItemsT, wSlS0, wIsdig, roMulS, roInL, wIndexS, wSum, pSum, fSum, lk_wide, lk_held, okT_T, wFld, wGet, wMeth, wOwn2, wOwnI, wOwn1, wOwnLen, wOwnStr, wRevT, wZip, wItemsLT, wTupD, wLstD, wMv, isOwn, insOf, iStm, iFld, iEnd, pSumT, fSumT, wNever, tb, eq_self, exists_eq_left', Option.some.injEq, lackN, wTruth, wMinL, roMinL, wEnum, wSlTo, wSlFrom, wPopAt, wLenO, wApp, fillD, List.getD_cons_zero, List.getD_cons_succ, dgPt, ptD, ptsD, wRng3, wUnp, wLcP, outs, ptIx, ptsIx, stillS_un, stillS_sh, backs, ends, wListR, wCountO, wFrz,  wIf, wNext, wBreak, wCont, wRet, wRetN, wDrop, wSet, wTest, wAndB, wOrB, wNotB, wIsi, wVar, wC, wOp, wRaise, wCall, wCons, wNil, wFun, wPar, wTup, wNeg, wUn, wIfE, wAndV, wOrV, wNotV, wUnp2, wLst, wIxO, wLenO, wSetIx, wAppend, wDic0, wFor, wItemsL, wItemsS, wRng1, wRng2, wListRev, dgName, roAdd, roI, roI0, roB, roIx, roIsN, roF, roL, datas, List.map_cons, List.map_nil, entry, List.length_cons, List.length_nil, List.cons_append, List.nil_append, List.replicate, List.replicate_succ, List.replicate_zero, Nat.reduceAdd, Nat.reduceSub, Nat.zero_add,
  List.getElem?_cons_zero, List.getElem?_cons_succ, List.set_cons_zero, List.set_cons_succ, dat_sh, dat_ow, dat_dp, DL.isInt, DL.isBool, DL.isStr, DL.isLst, DL.isTup, PinD, Bool.not_true, Bool.not_false, Bool.false_eq_true, if_true, if_false, true_and, and_true, OkAD, bodyEnds, pInt1, pInt2, fAbs, fMin, fMax, pIntOf, fIntOf, pLen, fLen, pSeq, fSeq, reduceIte, decide_eq_true_eq, ite_true, ite_false, Bool.and_eq_true, Bool.not_eq_true', roEq_int, Bool.true_xor, Bool.false_xor, Bool.true_eq_false])
theorem bit_val (x p : Nat) : Builtin.bitAnd (((x : Nat) : Int) / 2 ^ ((p : Nat) : Int).toNat) 1 = ((x / 2 ^ p % 2 : Nat) : Int) := by
  rw [Int.toNat_natCast, ← pow_i, ← Int.natCast_ediv, show (1 : Int) = ((1 : Nat) : Int) from rfl, band_n, Nat.and_one_is_mod]
end C
set_option Elab.async false
set_option maxRecDepth 100000
set_option maxHeartbeats 1000000
set_option linter.unusedVariables false
/-! grain (the greatest common divisor of the scores) and degree (the size of the greatest set with a score), plain law -/
namespace C
open PySem PySem.Spec PyProof.Rows L2 NdefX DL
/-! ### sums over the sets around a set -/
/-! ### grain -/
/-! ### degree -/
/-! ### kin of a table -/
/-! ### the greatest size of a place that bears something -/
end C
set_option Elab.async false
set_option maxRecDepth 100000
set_option maxHeartbeats 1000000
set_option linter.unusedVariables false
/-! promises: sizes of sets, degree, places, trees of questions -/
namespace C
open PySem PySem.Spec PyProof.Rows L2 NdefX DL
/-- a tree of questions: a bit, or a place and two trees -/
inductive TreeR : Nat → D → Prop
  | bit {n : Nat} {b : Nat} : b ≤ 1 → TreeR n (.int b)
  | node {n p : Nat} {a c : D} : p < 6 → TreeR n a → TreeR n c → TreeR (n + 1) (.tup [.int p, a, c])
end C
set_option maxRecDepth 100000
/-! D-level programs, printed by gen_defs.py -/
namespace C
open PySem PySem.Spec PyProof.Rows L2 NdefX DL
end C
set_option Elab.async false
set_option maxRecDepth 100000
set_option maxHeartbeats 1000000
set_option linter.unusedVariables false
namespace C
open PySem PySem.Spec PyProof.Rows L2 NdefX DL
local macro_rules | `(tactic| walk_at "dl") => `(tactic| simp only [wSeq, wMaxD, wMinD, roMaxD, roMinD, wLcO, wAppIx,  wLc, wTrue, wRaise0, wRaiseL, wSplit, wJoin, wFs, wSlS1, wSlS2, wAug, wItemsC, wEnum, pStr, fStr, pIntS, fIntS, roInS, orF, NoExc, dgTwo, wItemsT, wSlS0, wIsdig, roMulS, roInL, wIndexS, wSum, pSum, fSum, lk_wide, lk_held, okT_T, wFld, wGet, wMeth, wOwn2, wOwnI, wOwn1, wOwnLen, wOwnStr, wRevT, wZip, wItemsLT, wTupD, wLstD, wMv, isOwn, insOf, iStm, iFld, iEnd, pSumT, fSumT, wNever, tb, eq_self, exists_eq_left', Option.some.injEq, lackN, wTruth, wMinL, roMinL, wEnum, wSlTo, wSlFrom, wPopAt, wLenO, wApp, fillD, List.getD_cons_zero, List.getD_cons_succ, dgPt, ptD, ptsD, wRng3, wUnp, wLcP, outs, ptIx, ptsIx, stillS_un, stillS_sh, backs, ends, wListR, wCountO, wFrz,  wIf, wNext, wBreak, wCont, wRet, wRetN, wDrop, wSet, wTest, wAndB, wOrB, wNotB, wIsi, wVar, wC, wOp, wRaise, wCall, wCons, wNil, wFun, wPar, wTup, wNeg, wUn, wIfE, wAndV, wOrV, wNotV, wUnp2, wLst, wIxO, wLenO, wSetIx, wAppend, wDic0, wFor, wItemsL, wItemsS, wRng1, wRng2, wListRev, dgName, roAdd, roI, roI0, roB, roIx, roIsN, roF, roL, datas, List.map_cons, List.map_nil, entry, List.length_cons, List.length_nil, List.cons_append, List.nil_append, List.replicate, List.replicate_succ, List.replicate_zero, Nat.reduceAdd, Nat.reduceSub, Nat.zero_add,
  List.getElem?_cons_zero, List.getElem?_cons_succ, List.set_cons_zero, List.set_cons_succ, dat_sh, dat_ow, dat_dp, DL.isInt, DL.isBool, DL.isStr, DL.isLst, DL.isTup, PinD, Bool.not_true, Bool.not_false, Bool.false_eq_true, if_true, if_false, true_and, and_true, OkAD, bodyEnds, pInt1, pInt2, fAbs, fMin, fMax, pIntOf, fIntOf, pLen, fLen, pSeq, fSeq, reduceIte, decide_eq_true_eq, ite_true, ite_false, Bool.and_eq_true, Bool.not_eq_true', roEq_int, Bool.true_xor, Bool.false_xor, Bool.true_eq_false])
theorem TreeR.up : ∀ {n : Nat} {d : D}, TreeR n d → ∀ {m : Nat}, n ≤ m → TreeR m d
  | _, _, .bit h, _, _ => .bit h
  | n + 1, _, .node h a c, m, hm => by
    obtain ⟨j, rfl⟩ : ∃ j, m = j + 1 := ⟨m - 1, by omega⟩
    exact .node h (a.up (by omega)) (c.up (by omega))
end C
set_option Elab.async false
set_option maxRecDepth 100000
set_option maxHeartbeats 1000000
set_option linter.unusedVariables false
namespace C
open PySem PySem.Spec PyProof.Rows L2 NdefX DL
local macro_rules | `(tactic| walk_at "dl") => `(tactic| simp only [wSeq, wMaxD, wMinD, roMaxD, roMinD, wLcO, wAppIx,  roAny,  wSpoilX, wSpoilEX, wSpoilVI, wSpoilEI, isDic, wDicC, wTupO, wLendID,  wCountF, wIndexF, wMvIxL,  wLc, wTrue, wRaise0, wRaiseL, wSplit, wJoin, wFs, wSlS1, wSlS2, wAug, wItemsC, wEnum, pStr, fStr, pIntS, fIntS, roInS, orF, NoExc, dgTwo, wItemsT, wSlS0, wIsdig, roMulS, roInL, wIndexS, wSum, pSum, fSum, lk_wide, lk_held, okT_T, wFld, wGet, wMeth, wOwn2, wOwnI, wOwn1, wOwnLen, wOwnStr, wRevT, wZip, wItemsLT, wTupD, wLstD, wMv, isOwn, insOf, iStm, iFld, iEnd, pSumT, fSumT, wNever, tb, eq_self, exists_eq_left', Option.some.injEq, lackN, wTruth, wMinL, roMinL, wEnum, wSlTo, wSlFrom, wPopAt, wLenO, wApp, fillD, List.getD_cons_zero, List.getD_cons_succ, dgPt, ptD, ptsD, wRng3, wUnp, wLcP, outs, ptIx, ptsIx, stillS_un, stillS_sh, backs, ends, wListR, wCountO, wFrz,  wIf, wNext, wBreak, wCont, wRet, wRetN, wDrop, wSet, wTest, wAndB, wOrB, wNotB, wIsi, wVar, wC, wOp, wRaise, wCall, wCons, wNil, wFun, wPar, wTup, wNeg, wUn, wIfE, wAndV, wOrV, wNotV, wUnp2, wLst, wIxO, wLenO, wSetIx, wAppend, wDic0, wFor, wItemsL, wItemsS, wRng1, wRng2, wListRev, dgName, roAdd, roI, roI0, roB, roIx, roIsN, roF, roL, datas, List.map_cons, List.map_nil, entry, List.length_cons, List.length_nil, List.cons_append, List.nil_append, List.replicate, List.replicate_succ, List.replicate_zero, Nat.reduceAdd, Nat.reduceSub, Nat.zero_add,
  List.getElem?_cons_zero, List.getElem?_cons_succ, List.set_cons_zero, List.set_cons_succ, dat_sh, dat_ow, dat_dp, DL.isInt, DL.isBool, DL.isStr, DL.isLst, DL.isTup, PinD, Bool.not_true, Bool.not_false, Bool.false_eq_true, if_true, if_false, true_and, and_true, OkAD, bodyEnds, pInt1, pInt2, fAbs, fMin, fMax, pIntOf, fIntOf, pLen, fLen, pSeq, fSeq, reduceIte, decide_eq_true_eq, ite_true, ite_false, Bool.and_eq_true, Bool.not_eq_true', roEq_int, Bool.true_xor, Bool.false_xor, Bool.true_eq_false])
theorem isM_mdl {d : D} (h : isM d = true) : ∃ w l, d = mdl w l ∧ TB w l := by
  unfold isM at h
  split at h
  · rename_i w l
    simp only [Bool.and_eq_true, decide_eq_true_eq] at h
    obtain ⟨h1, h2, h3, h4⟩ := h
    obtain ⟨k, rfl⟩ := Int.eq_ofNat_of_zero_le h1
    have hb : ∀ (l : List D), l.all bitD = true → ∃ q : List Nat, l = nD q ∧ ∀ b ∈ q, b ≤ 1 := by
      intro l
      induction l with
      | nil => intro _; exact ⟨[], rfl, fun b hb => by cases hb⟩
      | cons d r ih =>
        intro h
        rw [List.all_cons, Bool.and_eq_true] at h
        obtain ⟨q, e, hq⟩ := ih h.2
        have h0 := h.1
        unfold bitD at h0
        split at h0
        · rename_i i
          rw [Bool.and_eq_true, decide_eq_true_eq, decide_eq_true_eq] at h0
          obtain ⟨j, rfl⟩ := Int.eq_ofNat_of_zero_le h0.1
          refine ⟨j :: q, by rw [e]; rfl, fun b hb => ?_⟩
          rcases List.mem_cons.mp hb with rfl | hb
          · omega
          · exact hq b hb
        · cases h0
    obtain ⟨q, rfl, hq⟩ := hb l h4
    refine ⟨k, q, rfl, ⟨by omega, ?_, hq⟩⟩
    rw [Int.toNat_natCast] at h3
    rw [← h3]
    unfold nD
    rw [List.length_map]
  · cases h
theorem bit_nD : ∀ {l : List Nat}, (∀ b ∈ l, b ≤ 1) → (nD l).all bitD = true
  | [], _ => rfl
  | b :: l, h => by
    show (bitD (.int (b : Nat)) && (nD l).all bitD) = true
    rw [bit_nD (fun x hx => h x (List.mem_cons_of_mem _ hx)), Bool.and_true]
    have := h b List.mem_cons_self
    show (decide ((0 : Int) ≤ (b : Nat)) && decide (((b : Nat) : Int) ≤ 1)) = true
    rw [decide_eq_true (by omega), decide_eq_true (by omega)]; rfl
theorem isM_of {w : Nat} {l : List Nat} (h : TB w l) : isM (mdl w l) = true := by
  have h6 := h.w6
  show (decide ((0 : Int) ≤ (w : Nat)) && (decide (((w : Nat) : Int) ≤ 6) && (decide ((nD l).length = 2 ^ ((w : Nat) : Int).toNat) && (nD l).all bitD))) = true
  rw [decide_eq_true (by omega), decide_eq_true (by omega), bit_nD h.bit, Int.toNat_natCast, decide_eq_true (by unfold nD; rw [List.length_map]; exact h.len)]; rfl
theorem tbM_mdl (w : Nat) (l : List Nat) : tbM (mdl w l) = tb w l := by
  show tb ((w : Nat) : Int).toNat ((nD l).map natD) = tb w l
  have : (nD l).map natD = l := by
    unfold nD
    rw [List.map_map]
    exact (List.map_congr_left (g := id) fun x _ => rfl).trans (List.map_id l)
  rw [this, Int.toNat_natCast]
theorem asTs_map : ∀ l : List D, asTs l = l.map asT
  | [] => by unfold asTs; rfl
  | d :: r => by unfold asTs; rw [asTs_map r]; rfl
theorem asT_mdl {w : Nat} {l : List Nat} (h : TB w l) : asT (mdl w l) = tb w l := by
  have := isM_of h
  unfold mdl at this ⊢
  unfold asT
  rw [if_pos this]
  exact tbM_mdl w l
theorem asT_lst (l : List D) : asT (.lst l) = .lst (l.map asT) := by unfold asT; rw [asTs_map]
theorem asT_tup {l : List D} (h : isM (.tup l) = false) : asT (.tup l) = .tup (l.map asT) := by
  unfold asT
  rw [if_neg (by rw [h]; decide), asTs_map]
theorem noL_tb (w : Nat) (l : List Nat) : NoL (tb w l) = true := by
  show (NoL (.int w) && (NoL (.tup (nD l)) && true)) = true
  show (true && (NoLs (nD l) && true)) = true
  rw [noLs_nD']; rfl
theorem plD_dic {n : Nat} {ks : List Key} {ds : List D} (h : plD (n + 1) (.dic ks ds) = true) : NoLs ds = true := by
  have h2 := (okDc_lf h).2.2.1
  revert h2
  induction ds with
  | nil => intro _; rfl
  | cons d ds ih =>
    intro h2
    rw [List.all_cons, Bool.and_eq_true] at h2
    have e : NoL d = true := by
      have h0 := h2.1
      cases d <;> first | rfl | cases h0
    have ih2 : NoLs ds = true := by
      have : ∀ es : List D, es.all lfD = true → NoLs es = true := by
        intro es
        induction es with
        | nil => intro _; rfl
        | cons d ds ih =>
          intro h2
          rw [List.all_cons, Bool.and_eq_true] at h2
          have e : NoL d = true := by
            have h0 := h2.1
            cases d <;> first | rfl | cases h0
          show (NoL d && NoLs ds) = true
          rw [e, ih h2.2]; rfl
      exact this ds h2.2
    show (NoL d && NoLs ds) = true
    rw [e, ih2]; rfl
/-- a comprehension whose items are one's own, all of it -/
theorem lcO_all {i : Nat} {we : DT Sl} {Q : List Addr → List D → DEnv → Prop} (f : D → D) {ρ : DEnv} (h0 : ρ.set i .un = ρ) : ∀ (ds : List D) (F : List Addr) (acc : List D), acc.length + ds.length ≤ 100000 →
    (∀ d ∈ ds, ∀ R : Sl → DEnv → Prop, (∀ y, okO y = true → y.dat = f d → R y (ρ.set i (.sh d))) → we (ρ.set i (.sh d)) R noE) → (∀ F', Q F' (acc ++ ds.map f) ρ) → lcO i wTrue we Q ds F acc ρ
  | [], F, acc, _, _, hq => by
    have := hq F
    rw [List.map_nil, List.append_nil] at this
    exact this
  | d :: ds, F, acc, hl, h, hq => by
    show we (ρ.set i (.sh d)) (fun y ρ3 => acc.length < sizeLine ∧ okO y = true ∧ lcO i wTrue we Q ds (F ++ y.foot) (acc ++ [y.dat]) (ρ3.set i .un)) noE
    rw [List.length_cons] at hl
    refine h d List.mem_cons_self _ fun y o e => ⟨by rw [sizeLine_eq]; omega, o, ?_⟩
    rw [List.set_set, h0, e]
    refine lcO_all f h0 ds _ _ (by rw [List.length_append, List.length_singleton]; omega) (fun x hx => h x (List.mem_cons_of_mem _ hx)) fun F' => ?_
    have := hq F'
    rw [List.map_cons] at this
    rw [List.append_assoc]
    exact this
theorem call_mdl {d : D} {n : Nat} {Q : Sl → Prop} {E : Er → Prop} (h : plD n d = true) (q : Q (.sh (.bl (isM d)))) : W_law_is_model [d] Q E := ⟨d, n, rfl, h, q⟩
theorem call_sameD {n : Nat} {d : D} {Q : Sl → Prop} {E : Er → Prop} (h : plD n d = true) (q : Q (.sh (.bl true))) : W_law_sameD n [d, d] Q E := ⟨d, rfl, h, q⟩
theorem call_asT {n : Nat} {d : D} {Q : Sl → Prop} {E : Er → Prop} (h : plD n d = true) (q : ∀ y, okO y = true → y.dat = asT d → Q y) : W_law_as_table n [d] Q E := ⟨d, rfl, h, fun F => q _ rfl rfl⟩
theorem call_meets {n : Nat} {d : D} {Q : Sl → Prop} {E : Er → Prop} (h : plD n d = true) (q : Q (.sh (.bl true))) : W_law_meets n [asT d, d] Q E := ⟨d, rfl, h, q⟩
theorem plD_lst {n : Nat} {l : List D} (h : plD (n + 1) (.lst l) = true) : l.length ≤ 1000 ∧ ∀ x ∈ l, plD n x = true := by
  have h1 : (decide (l.length ≤ 1000) && l.all (plD n)) = true := h
  simp only [Bool.and_eq_true, decide_eq_true_eq, List.all_eq_true] at h1
  exact h1
theorem plD_tup {n : Nat} {l : List D} (h : plD (n + 1) (.tup l) = true) : l.length ≤ 1000 ∧ ∀ x ∈ l, plD n x = true := by
  have h1 : (decide (l.length ≤ 1000) && l.all (plD n)) = true := h
  simp only [Bool.and_eq_true, decide_eq_true_eq, List.all_eq_true] at h1
  exact h1
theorem plD_isJ {n : Nat} {d : D} (h : plD n d = true) : ∃ b, isI d = some b := by
  cases n with
  | zero => cases h
  | succ n => cases d <;> first | exact ⟨_, rfl⟩ | cases h
theorem sat_law_sameD (n : Nat) : ∀ ds Q E', W_law_sameD (n + 1) ds Q E' → p_law_sameD n (bodyEnds Q) (entry 3 ds) (fun e _ => E' e) := by
  rintro ds Q E' ⟨d, rfl, hd, hq⟩
  unfold p_law_sameD
  cases d with
  | non => walk_at "dl"; exact bodyR hq
  | bl b =>
    walk_at "dl"
    refine ⟨.bool b, .bool b, rfl, rfl, rfl, rfl, ?_⟩
    have : PyData.eqv (.bool b) (.bool b) = true := by cases b <;> rfl
    rw [this]
    exact bodyR hq
  | int i => walk_at "dl"; exact bodyR hq
  | str z =>
    walk_at "dl"
    refine .inl ?_
    refine eq_str hd hd ?_
    rw [decide_eq_true rfl]
    exact bodyR hq
  | lst l =>
    obtain ⟨h1, h2⟩ := plD_lst hd
    walk_at "dl"
    simp only [decide_true, Bool.true_eq_false, if_false]
    have e0 : ((l.length : Nat) : Int).toNat = l.length := rfl
    rw [e0]
    refine ⟨⟨by omega, by omega⟩, forD_rng (fun k ρ => ∃ s, ρ = [.sh (.lst l), .sh (.lst l), s]) ?_ ?_ ⟨_, rfl⟩⟩
    · rintro ρ ⟨s, rfl⟩
      exact bodyR hq
    · rintro k ρ hk ⟨s, rfl⟩ K hK
      simp only [dgName]
      obtain ⟨x, hx, e⟩ := at_same hk
      try walk_at "dl"
      refine ⟨x, e, x, e, call_sameD (h2 x hx) ?_⟩
      try walk_at "dl"
      exact hK _ ⟨_, rfl⟩
  | tup l =>
    obtain ⟨h1, h2⟩ := plD_tup hd
    walk_at "dl"
    simp only [decide_true, Bool.true_eq_false, if_false]
    have e0 : ((l.length : Nat) : Int).toNat = l.length := rfl
    rw [e0]
    refine ⟨⟨by omega, by omega⟩, forD_rng (fun k ρ => ∃ s, ρ = [.sh (.tup l), .sh (.tup l), s]) ?_ ?_ ⟨_, rfl⟩⟩
    · rintro ρ ⟨s, rfl⟩
      exact bodyR hq
    · rintro k ρ hk ⟨s, rfl⟩ K hK
      simp only [dgName]
      obtain ⟨x, hx, e⟩ := at_same hk
      try walk_at "dl"
      refine ⟨x, e, x, e, call_sameD (h2 x hx) ?_⟩
      try walk_at "dl"
      exact hK _ ⟨_, rfl⟩
  | dic ks es =>
    walk_at "dl"
    refine .inr ⟨ks, es, rfl, rfl, hd, ?_⟩
    exact bodyR hq
  | _ => cases hd
theorem isM_two {a b : D} (h : ¬ ((∃ w : Int, a = .int w ∧ 0 ≤ w ∧ w ≤ 6) ∧ (∃ l, b = .lst l))) : isM (.tup [a, b]) = false := by
  cases hb : isM (.tup [a, b]) with
  | false => rfl
  | true =>
    obtain ⟨w, l, e, hT⟩ := isM_mdl hb
    have h6 := hT.w6
    unfold mdl at e
    injection e with e
    injection e with e1 e2
    injection e2 with e2 _
    exact absurd ⟨⟨w, e1, by omega, by omega⟩, _, e2⟩ h
theorem isM_len {l : List D} (h : l.length ≠ 2) : isM (.tup l) = false := by
  cases hb : isM (.tup l) with
  | false => rfl
  | true =>
    obtain ⟨w, q, e, hT⟩ := isM_mdl hb
    unfold mdl at e
    injection e with e
    rw [e] at h
    exact absurd rfl h
theorem isM_int {w : Int} {l : List D} (h1 : 0 ≤ w) (h2 : w ≤ 6) : isM (.tup [.int w, .lst l]) = (decide (l.length = 2 ^ w.toNat) && l.all bitD) := by
  show (decide (0 ≤ w) && (decide (w ≤ 6) && (decide (l.length = 2 ^ w.toNat) && l.all bitD))) = _
  rw [decide_eq_true h1, decide_eq_true h2]; rfl
theorem tup_yes (l : List D) : insF okI isTup (.tup l) = some true := rfl
theorem plD_ins {n : Nat} {d : D} (f : D → Option Bool) (hf : ∀ d, (∀ c a b, d ≠ .ins c a b) → (∀ c a p o, d ≠ .exc c a p o) → d ≠ .sto → (∀ n, d ≠ .scr n) → (f d).isSome = true) (h : plD n d = true) : ∃ b, insF okI f d = some b := by
  cases n with
  | zero => cases h
  | succ n =>
    have z : (f d).isSome = true := by
      refine hf d ?_ ?_ ?_ ?_ <;> (intros; intro e; subst e; cases h)
    obtain ⟨b, hb⟩ := Option.isSome_iff_exists.mp z
    refine ⟨b, ?_⟩
    cases d <;> first | exact hb | cases h
theorem isLst_some : ∀ d, (∀ c a b, d ≠ .ins c a b) → (∀ c a p o, d ≠ .exc c a p o) → d ≠ .sto → (∀ n, d ≠ .scr n) → (isLst d).isSome = true := by
  intro d h1 h2 h3 h4
  cases d with
  | ins c a b => exact absurd rfl (h1 c a b)
  | exc c a p o => exact absurd rfl (h2 c a p o)
  | sto => exact absurd rfl h3
  | scr n => exact absurd rfl (h4 n)
  | _ => rfl
theorem plD_pin {n : Nat} {d : D} (h : plD n d = true) : PinD [] d := by
  cases n with
  | zero => cases h
  | succ n => cases d <;> first | trivial | cases h
theorem call_istabD {w : Nat} {l : List Nat} {Q : Sl → Prop} {E : Er → Prop} (h : TB w l) (q : Q (.sh (.bl true))) : W_law_is_tableD [tb w l, .int w, .lst (nD l)] Q E := ⟨w, l, rfl, h, q⟩
theorem plD_nD {n : Nat} {l : List Nat} (h : l.length ≤ 1000) : plD (n + 2) (.tup (nD l)) = true ∧ plD (n + 2) (.lst (nD l)) = true := by
  have e : (decide ((nD l).length ≤ 1000) && (nD l).all (plD (n + 1))) = true := by
    rw [decide_eq_true (by unfold nD; rw [List.length_map]; exact h), Bool.true_and]
    exact List.all_eq_true.mpr fun x hx => by
      obtain ⟨i, _, rfl⟩ := List.mem_map.mp hx
      rfl
  exact ⟨e, e⟩
theorem sat_law_is_tableD : ∀ ds Q E', W_law_is_tableD ds Q E' → p_law_is_tableD (bodyEnds Q) (entry 3 ds) (fun e _ => E' e) := by
  rintro ds Q E' ⟨w, l, rfl, hT, hq⟩
  unfold p_law_is_tableD
  refine wSeq_k ?_
  intro N1 hN1
  walk_at "dl"
  have e : isOwnX okI "Table" (.ins "Table" ["wide", "held"] [.int w, .tup (nD l)]) = some true := rfl
  simp only [e, Bool.true_eq_false, if_false]
  refine hN1 _ ?_
  clear hN1
  refine wSeq_i ?_
  walk_at "dl"
  refine ⟨w, l, rfl, hT, ?_⟩
  try walk_at "dl"
  refine call_sameD rfl ?_
  try walk_at "dl"
  refine ⟨w, l, rfl, hT, ?_⟩
  try walk_at "dl"
  refine roTup_mono (fun z ez => ?_) (show (roTup [.lst (nD l)] fun z => z = .sh (.tup (nD l))) from rfl)
  subst ez
  refine call_sameD ?_ (bodyR hq)
  have h64 := hT.le
  exact (plD_nD (n := 4) (by omega)).1
theorem sat_law_is_model : ∀ ds Q E', W_law_is_model ds Q E' → p_law_is_model (bodyEnds Q) (entry 2 ds) (fun e _ => E' e) := by
  rintro ds Q E' ⟨d, n, rfl, hd, hq⟩
  unfold p_law_is_model
  cases n with
  | zero => cases hd
  | succ n =>
  cases d with
  | tup l =>
    obtain ⟨h1, h2⟩ := plD_tup hd
    refine wSeq_k ?_
    intro N1 hN1
    walk_at "dl"
    simp only [tup_yes]
    by_cases c2 : l.length = 2
    · match l, c2 with
      | [a, b], _ =>
      have p1 := h2 a (by simp)
      have p2 := h2 b (by simp)
      have c2' : decide ((([a, b].length : Nat) : Int) = 2) = true := rfl
      rw [if_neg (by decide), c2', if_neg (by decide)]
      simp only [at0]
      obtain ⟨bi, hbi⟩ := plD_isJ p1
      refine call_isint hbi ?_
      try walk_at "dl"
      by_cases ci : ∃ i, a = .int i
      · obtain ⟨i, rfl⟩ := ci
        have : bi = true := by injection hbi with e; exact e.symm
        subst this
        rw [if_neg (by decide)]
        refine hN1 _ ?_
        clear hN1
        obtain ⟨bl, hbl⟩ := plD_ins isLst isLst_some p2
        have lo : i < 0 ∨ 6 < i → isM (.tup [.int i, b]) = false := fun h => isM_two fun ⟨⟨w, e, w0, w6⟩, _⟩ => by
          injection e with e
          omega
        refine wSeq_k ?_
        intro N2 hN2
        walk_at "dl"
        simp only [at0, at1]
        by_cases c0 : i < 0
        · rw [lo (.inl c0)] at hq
          rw [if_pos c0]
          exact bodyR hq
        rw [if_neg c0]
        by_cases c6 : 6 < i
        · rw [lo (.inr c6)] at hq
          rw [if_pos c6]
          exact bodyR hq
        rw [if_neg c6]
        rw [hbl]
        refine ⟨plD_pin p2, ?_⟩
        by_cases cl : ∃ l, b = .lst l
        · obtain ⟨l, rfl⟩ := cl
          have : bl = true := by injection hbl with e; exact e.symm
          subst this
          rw [if_neg (by decide)]
          refine ⟨trivial, ⟨by omega, by omega, by decide⟩, ?_⟩
          rw [isM_int (by omega) (by omega)] at hq
          try walk_at "dl"
          have e1 : (1 : Int) * 2 ^ i.toNat = ((2 ^ i.toNat : Nat) : Int) := by rw [Int.one_mul, pow_i]
          rw [e1]
          by_cases ce : l.length = 2 ^ i.toNat
          · rw [decide_eq_true ce, Bool.true_and] at hq
            rw [decide_eq_true (by omega), if_neg (by decide)]
            refine hN2 _ ?_
            clear hN2
            refine wSeq_k ?_
            intro N3 hN3
            walk_at "dl"
            simp only [at1]
            obtain ⟨n, rfl⟩ : ∃ k, n = k + 1 := by
              cases n with
              | zero => cases p2
              | succ k => exact ⟨k, rfl⟩
            obtain ⟨q1, q2⟩ := plD_lst p2
            refine forD_ind (fun ds ρ => l.all bitD = ds.all bitD ∧ (∀ x ∈ ds, plD n x = true) ∧ ∃ x, ρ = [.sh (.tup [.int i, .lst l]), x]) ?_ ?_ _ _ ⟨rfl, q2, _, rfl⟩
            · rintro ρ ⟨h3, _, x, rfl⟩
              refine hN3 _ ?_
              clear hN3
              refine wSeq_i ?_
              walk_at "dl"
              rw [h3] at hq
              exact bodyR hq
            · rintro d ds ρ ⟨h3, h4, x, rfl⟩ K hK
              simp only [dgName]
              have pd := h4 d List.mem_cons_self
              obtain ⟨bi2, hb2⟩ := plD_isJ pd
              rw [List.all_cons] at h3
              try walk_at "dl"
              refine call_isint hb2 ?_
              try walk_at "dl"
              by_cases cd : ∃ j, d = .int j
              · obtain ⟨j, rfl⟩ := cd
                have : bi2 = true := by injection hb2 with e; exact e.symm
                subst this
                rw [if_neg (by decide)]
                have eb : bitD (.int j) = (decide (0 ≤ j) && decide (j ≤ 1)) := rfl
                try walk_at "dl"
                by_cases j0 : j < 0
                · rw [if_pos j0]
                  rw [h3, eb, decide_eq_false (by omega)] at hq
                  exact bodyR hq
                rw [if_neg j0]
                by_cases j1 : 1 < j
                · rw [if_pos j1]
                  rw [h3, eb, decide_eq_false (show ¬ j ≤ 1 by omega), Bool.and_false] at hq
                  exact bodyR hq
                rw [if_neg j1]
                refine hK _ ⟨?_, fun x hx => h4 x (List.mem_cons_of_mem _ hx), _, rfl⟩
                rw [h3, eb, decide_eq_true (by omega), decide_eq_true (by omega)]
                rfl
              · have : bi2 = false := by
                  cases d with
                  | int j => exact absurd ⟨j, rfl⟩ cd
                  | non => injection hb2 with e; exact e.symm
                  | bl _ => injection hb2 with e; exact e.symm
                  | str _ => injection hb2 with e; exact e.symm
                  | lst _ => injection hb2 with e; exact e.symm
                  | tup _ => injection hb2 with e; exact e.symm
                  | dic _ _ => injection hb2 with e; exact e.symm
                  | _ => cases hb2
                subst this
                have eb : bitD d = false := by
                  cases d <;> first | rfl | (rename_i j; exact absurd ⟨j, rfl⟩ cd)
                rw [h3, eb] at hq
                rw [if_pos rfl]
                exact bodyR hq
          · rw [decide_eq_false ce, Bool.false_and] at hq
            rw [decide_eq_false (by omega), if_pos rfl]
            exact bodyR hq
        · have : bl = false := by
            cases b with
            | lst l => exact absurd ⟨l, rfl⟩ cl
            | non => injection hbl with e; exact e.symm
            | bl _ => injection hbl with e; exact e.symm
            | str _ => injection hbl with e; exact e.symm
            | int _ => injection hbl with e; exact e.symm
            | tup _ => injection hbl with e; exact e.symm
            | dic _ _ => injection hbl with e; exact e.symm
            | ins _ _ _ => cases n <;> cases p2
            | _ => cases hbl
          subst this
          rw [isM_two fun ⟨_, h⟩ => cl h] at hq
          rw [if_pos rfl]
          exact bodyR hq
      · have : bi = false := by
          cases a with
          | int j => exact absurd ⟨j, rfl⟩ ci
          | non => injection hbi with e; exact e.symm
          | bl _ => injection hbi with e; exact e.symm
          | str _ => injection hbi with e; exact e.symm
          | lst _ => injection hbi with e; exact e.symm
          | tup _ => injection hbi with e; exact e.symm
          | dic _ _ => injection hbi with e; exact e.symm
          | _ => cases hbi
        subst this
        rw [isM_two fun ⟨⟨w, e, _⟩, _⟩ => ci ⟨w, e⟩] at hq
        rw [if_pos rfl]
        exact bodyR hq
    · rw [isM_len c2] at hq
      rw [if_neg (by decide), if_pos (decide_eq_false (by omega))]
      exact bodyR hq
  | non =>
    refine wSeq_i ?_
    walk_at "dl"
    exact bodyR hq
  | bl b =>
    refine wSeq_i ?_
    walk_at "dl"
    exact bodyR hq
  | int i =>
    refine wSeq_i ?_
    walk_at "dl"
    exact bodyR hq
  | str z =>
    refine wSeq_i ?_
    walk_at "dl"
    exact bodyR hq
  | lst l =>
    refine wSeq_i ?_
    walk_at "dl"
    exact bodyR hq
  | dic ks es =>
    refine wSeq_i ?_
    walk_at "dl"
    exact bodyR hq
  | _ => cases hd
theorem lst_yes (l : List D) : insF okI isLst (.lst l) = some true := rfl
theorem lst_no (l : List D) : insF okI isLst (.tup l) = some false := rfl
theorem tup_no (l : List D) : insF okI isTup (.lst l) = some false := rfl
theorem ne_bl (b : Bool) {Q : Sl → Prop} (q : Q (.sh (.bl false))) : roEq true (.bl b) (.bl b) Q := by
  refine ⟨.bool b, .bool b, rfl, rfl, rfl, rfl, ?_⟩
  have : PyData.eqv (.bool b) (.bool b) = true := by cases b <;> rfl
  rw [this]
  exact q
theorem sat_law_as_table (n : Nat) : ∀ ds Q E', W_law_as_table (n + 1) ds Q E' → p_law_as_table n (bodyEnds Q) (entry 2 ds) (fun e _ => E' e) := by
  rintro ds Q E' ⟨d, rfl, hd, hq⟩
  unfold p_law_as_table
  refine wSeq_k ?_
  intro N1 hN1
  walk_at "dl"
  refine call_mdl hd ?_
  try walk_at "dl"
  by_cases c : isM d = true
  · obtain ⟨w, l, rfl, hT⟩ := isM_mdl c
    rw [c]
    rw [asT_mdl hT] at hq
    try walk_at "dl"
    unfold mdl
    simp only [at0, at1]
    refine ⟨trivial, fun p => ?_⟩
    exact call_mk hT ⟨_, .leaf _ (noL_tb w l), hq _⟩
  · rw [Bool.not_eq_true] at c
    rw [c]
    try walk_at "dl"
    refine hN1 _ ?_
    clear hN1
    cases d with
    | lst l =>
      obtain ⟨h1, h2⟩ := plD_lst hd
      rw [asT_lst] at hq
      refine wSeq_k ?_
      intro N2 hN2
      try walk_at "dl"
      simp only [lst_yes, if_true]
      refine lcO_all asT rfl l _ _ (by rw [List.length_nil]; omega) (fun x hx R hR => ?_) fun F' => ?_
      · try walk_at "dl"
        exact call_asT (h2 x hx) fun y o e => hR y o e
      · intro p
        rw [List.nil_append]
        exact ⟨_, .refl _, hq _⟩
    | tup l =>
      obtain ⟨h1, h2⟩ := plD_tup hd
      rw [asT_tup c] at hq
      refine wSeq_k ?_
      intro N2 hN2
      try walk_at "dl"
      refine hN2 _ ?_
      clear hN2
      refine wSeq_k ?_
      intro N3 hN3
      try walk_at "dl"
      simp only [tup_yes, if_true]
      refine lcO_all asT rfl l _ _ (by rw [List.length_nil]; omega) (fun x hx R hR => ?_) fun F' => ?_
      · try walk_at "dl"
        exact call_asT (h2 x hx) fun y o e => hR y o e
      · intro p
        rw [List.nil_append]
        exact ⟨rfl, _, rfl, fun F => ⟨_, .refl _, hq _⟩⟩
    | dic ks es =>
      have e : NoL (.dic ks es) = true := plD_dic hd
      refine wSeq_k ?_
      intro N2 hN2
      try walk_at "dl"
      refine hN2 _ ?_
      clear hN2
      refine wSeq_k ?_
      intro N3 hN3
      try walk_at "dl"
      refine hN3 _ ?_
      clear hN3
      refine wSeq_i ?_
      walk_at "dl"
      exact ⟨_, .leaf _ e, hq _⟩
    | non =>
      refine wSeq_k ?_
      intro N2 hN2
      try walk_at "dl"
      refine hN2 _ ?_
      clear hN2
      refine wSeq_k ?_
      intro N3 hN3
      try walk_at "dl"
      refine hN3 _ ?_
      clear hN3
      refine wSeq_i ?_
      walk_at "dl"
      exact ⟨_, .leaf _ rfl, hq _⟩
    | bl b =>
      refine wSeq_k ?_
      intro N2 hN2
      try walk_at "dl"
      refine hN2 _ ?_
      clear hN2
      refine wSeq_k ?_
      intro N3 hN3
      try walk_at "dl"
      refine hN3 _ ?_
      clear hN3
      refine wSeq_i ?_
      walk_at "dl"
      exact ⟨_, .leaf _ rfl, hq _⟩
    | int i =>
      refine wSeq_k ?_
      intro N2 hN2
      try walk_at "dl"
      refine hN2 _ ?_
      clear hN2
      refine wSeq_k ?_
      intro N3 hN3
      try walk_at "dl"
      refine hN3 _ ?_
      clear hN3
      refine wSeq_i ?_
      walk_at "dl"
      exact ⟨_, .leaf _ rfl, hq _⟩
    | str z =>
      refine wSeq_k ?_
      intro N2 hN2
      try walk_at "dl"
      refine hN2 _ ?_
      clear hN2
      refine wSeq_k ?_
      intro N3 hN3
      try walk_at "dl"
      refine hN3 _ ?_
      clear hN3
      refine wSeq_i ?_
      walk_at "dl"
      exact ⟨_, .leaf _ rfl, hq _⟩
    | _ => cases n <;> cases hd
theorem atD_asT {l : List D} {k : Nat} {x : D} (hk : k < l.length) (h : atD l ((k : Nat) : Int) = some x) : atD (l.map asT) ((k : Nat) : Int) = some (asT x) := by
  unfold atD atI at h ⊢
  rw [ix_in (by omega) (by omega), Int.toNat_natCast] at h
  rw [ix_in (by omega) (by rw [List.length_map]; omega), Int.toNat_natCast]
  have h : l[k]? = some x := h
  show (l.map asT)[k]? = _
  rw [List.getElem?_map, h]; rfl
theorem sat_law_meets (n : Nat) : ∀ ds Q E', W_law_meets (n + 1) ds Q E' → p_law_meets n (bodyEnds Q) (entry 3 ds) (fun e _ => E' e) := by
  rintro ds Q E' ⟨d, rfl, hd, hq⟩
  unfold p_law_meets
  refine wSeq_k ?_
  intro N1 hN1
  walk_at "dl"
  refine call_mdl hd ?_
  try walk_at "dl"
  by_cases c : isM d = true
  · obtain ⟨w, l, rfl, hT⟩ := isM_mdl c
    rw [c, asT_mdl hT]
    try walk_at "dl"
    unfold mdl
    simp only [at0, at1]
    exact call_istabD hT (bodyR hq)
  · rw [Bool.not_eq_true] at c
    rw [c]
    try walk_at "dl"
    refine hN1 _ ?_
    clear hN1
    cases d with
    | lst l =>
      obtain ⟨h1, h2⟩ := plD_lst hd
      rw [asT_lst]
      refine wSeq_k ?_
      intro N2 hN2
      try walk_at "dl"
      refine hN2 _ ?_
      clear hN2
      refine wSeq_k ?_
      intro N3 hN3
      try walk_at "dl"
      simp only [lst_yes, tup_no]
      refine ne_bl _ ?_
      try walk_at "dl"
      refine ne_bl _ ?_
      try walk_at "dl"
      refine hN3 _ ?_
      clear hN3
      refine wSeq_k ?_
      intro N4 hN4
      try walk_at "dl"
      rw [List.length_map]
      simp only [decide_true, Bool.true_eq_false, if_false]
      refine hN4 _ ?_
      clear hN4
      refine wSeq_k ?_
      intro N5 hN5
      try walk_at "dl"
      have e0 : ((l.length : Nat) : Int).toNat = l.length := rfl
      rw [e0]
      refine ⟨⟨by omega, by omega⟩, forD_rng (fun k ρ => ∃ s, ρ = [.sh (.lst (l.map asT)), .sh (.lst l), s]) ?_ ?_ ⟨_, rfl⟩⟩
      · rintro ρ ⟨s, rfl⟩
        refine hN5 _ ?_
        clear hN5
        refine wSeq_i ?_
        walk_at "dl"
        exact bodyR hq
      · rintro k ρ hk ⟨s, rfl⟩ K hK
        simp only [dgName]
        obtain ⟨x, hx, e⟩ := at_same hk
        try walk_at "dl"
        refine ⟨asT x, atD_asT hk e, x, e, call_meets (h2 x hx) ?_⟩
        try walk_at "dl"
        exact hK _ ⟨_, rfl⟩
    | tup l =>
      obtain ⟨h1, h2⟩ := plD_tup hd
      rw [asT_tup c]
      refine wSeq_k ?_
      intro N2 hN2
      try walk_at "dl"
      refine hN2 _ ?_
      clear hN2
      refine wSeq_k ?_
      intro N3 hN3
      try walk_at "dl"
      simp only [lst_no, tup_yes]
      refine ne_bl _ ?_
      try walk_at "dl"
      refine ne_bl _ ?_
      try walk_at "dl"
      refine hN3 _ ?_
      clear hN3
      refine wSeq_k ?_
      intro N4 hN4
      try walk_at "dl"
      rw [List.length_map]
      simp only [decide_true, Bool.true_eq_false, if_false]
      refine hN4 _ ?_
      clear hN4
      refine wSeq_k ?_
      intro N5 hN5
      try walk_at "dl"
      have e0 : ((l.length : Nat) : Int).toNat = l.length := rfl
      rw [e0]
      refine ⟨⟨by omega, by omega⟩, forD_rng (fun k ρ => ∃ s, ρ = [.sh (.tup (l.map asT)), .sh (.tup l), s]) ?_ ?_ ⟨_, rfl⟩⟩
      · rintro ρ ⟨s, rfl⟩
        refine hN5 _ ?_
        clear hN5
        refine wSeq_i ?_
        walk_at "dl"
        exact bodyR hq
      · rintro k ρ hk ⟨s, rfl⟩ K hK
        simp only [dgName]
        obtain ⟨x, hx, e⟩ := at_same hk
        try walk_at "dl"
        refine ⟨asT x, atD_asT hk e, x, e, call_meets (h2 x hx) ?_⟩
        try walk_at "dl"
        exact hK _ ⟨_, rfl⟩
    | dic ks es =>
      refine wSeq_k ?_
      intro N2 hN2
      try walk_at "dl"
      have e := call_sameD (n := 6) (d := .dic ks es) (E := fun e => E' e) hd (Q := fun z => ∃ y, Cv z y ∧ Q y) (bodyR hq)
      exact e
    | non =>
      refine wSeq_k ?_
      intro N2 hN2
      try walk_at "dl"
      have e := call_sameD (n := 6) (d := .non) (E := fun e => E' e) hd (Q := fun z => ∃ y, Cv z y ∧ Q y) (bodyR hq)
      exact e
    | bl b =>
      refine wSeq_k ?_
      intro N2 hN2
      try walk_at "dl"
      have e := call_sameD (n := 6) (d := .bl b) (E := fun e => E' e) hd (Q := fun z => ∃ y, Cv z y ∧ Q y) (bodyR hq)
      exact e
    | int i =>
      refine wSeq_k ?_
      intro N2 hN2
      try walk_at "dl"
      have e := call_sameD (n := 6) (d := .int i) (E := fun e => E' e) hd (Q := fun z => ∃ y, Cv z y ∧ Q y) (bodyR hq)
      exact e
    | str z =>
      refine wSeq_k ?_
      intro N2 hN2
      try walk_at "dl"
      have e := call_sameD (n := 6) (d := .str z) (E := fun e => E' e) hd (Q := fun z => ∃ y, Cv z y ∧ Q y) (bodyR hq)
      exact e
    | _ => cases n <;> cases hd
def clsN2 : List Str := ["WrongKind", "WrongSize", "OutOfRange", "BadText", "NotATable", "Spent", "TooFewPlaces", "WrongPaper", "UnknownName", "NameTaken", "NothingToUndo", "BookFull"]
theorem sat_law_refused (pn : Addr × Obj) : ∀ ds Q E', W_law_refused pn ds Q E' → p_law_refused pn (bodyEnds Q) (entry 5 ds) (fun e _ => E' e) := by
  rintro ds Q E' ⟨⟨c, a, rfl, hc⟩, h, _⟩
  have hq := h _ ⟨c, a, rfl, rfl⟩
  have he : errs.contains c = true := by
    rcases hc with rfl | rfl | rfl <;> decide +kernel
  have ic : ∀ e, isCls errs e (.exc c (some a) pn.1 pn.2) = some (c == e || e == "ShadeError") := fun e => if_pos he
  have m1 : (pn.fst, pn.snd) ∈ [pn] := List.mem_singleton.mpr rfl
  unfold p_law_refused
  refine wSeq_k ?_
  intro N1 hN1
  walk_at "dl"
  intro p8
  refine hN1 _ ?_
  clear hN1
  refine wSeq_k ?_
  intro N2 hN2
  walk_at "dl"
  intro p9
  refine ⟨by rw [sizeLine_eq]; decide, fun p10 => ?_⟩
  refine hN2 _ ?_
  clear hN2
  refine wSeq_k ?_
  intro N3 hN3
  walk_at "dl"
  simp only [ic]
  refine ⟨m1, m1, m1, fun p1 => ?_⟩
  refine hN3 _ ?_
  clear hN3
  refine wSeq_k ?_
  intro N4 hN4
  walk_at "dl"
  simp only [ic]
  refine ⟨m1, m1, m1, fun p2 => ?_⟩
  try walk_at "dl"
  refine ⟨by rw [sizeLine_eq]; decide, fun p3 => ?_⟩
  refine hN4 _ ?_
  clear hN4
  refine wSeq_k ?_
  intro N5 hN5
  walk_at "dl"
  simp only [ic]
  refine ⟨m1, m1, m1, fun p4 => ?_⟩
  try walk_at "dl"
  refine ⟨by rw [sizeLine_eq]; decide, fun p5 => ?_⟩
  refine hN5 _ ?_
  clear hN5
  refine wSeq_k ?_
  intro N6 hN6
  walk_at "dl"
  simp only [ic]
  refine ⟨m1, m1, m1, fun p6 => ?_⟩
  try walk_at "dl"
  refine ⟨by rw [sizeLine_eq]; decide, fun p7 => ?_⟩
  refine hN6 _ ?_
  clear hN6
  refine wSeq_k ?_
  intro N7 hN7
  walk_at "dl"
  refine ⟨by decide, ?_⟩
  show lcD 4 _ _ _ (rangeD 0 12) [] [.sh (.exc c (some a) pn.fst pn.snd), .sh (.lst (clsN2.map D.str)), .sh (.lst (clsN2.map fun e => D.bl (c == e || e == "ShadeError"))), .un, .un]
  rw [rangeD_map]
  refine lcD_map (fun (x : Nat) => D.int x) (fun k => (clsN2.map fun e => (c == e || e == "ShadeError")).getD k false) (fun k => D.str (clsN2.getD k "")) _ _ (fun x hx Q0 E0 q0 => ?_) (fun x hx _ Q0 E0 q0 => ?_) rfl (by decide) ?_
  · have hx := List.mem_range.mp hx
    walk_at "dl"
    refine ⟨_, atD_gen (clsN2.map fun e => (c == e || e == "ShadeError")) D.bl false hx (by rw [List.map_map]; rfl), ?_⟩
    exact q0
  · have hx := List.mem_range.mp hx
    walk_at "dl"
    refine ⟨_, atD_gen clsN2 D.str "" hx rfl, ?_⟩
    exact q0
  · rw [List.nil_append]
    have e : (((List.range 12).filter fun k => (clsN2.map fun e => (c == e || e == "ShadeError")).getD k false).map fun k => D.str (clsN2.getD k "")) = [D.str c] := by
      have : ((List.range 12).filter fun k => (clsN2.map fun e => (c == e || e == "ShadeError")).getD k false).map (fun k => clsN2.getD k "") = [c] := by
        rcases hc with rfl | rfl | rfl <;> decide +kernel
      have h2 := congrArg (List.map D.str) this
      rw [List.map_map] at h2
      exact h2
    rw [e]
    intro p
    refine hN7 _ ?_
    clear hN7
    have ve : isVE errs (.exc c (some a) pn.1 pn.2) = some true := if_pos (by rcases hc with rfl | rfl | rfl <;> decide +kernel)
    have hX : okX c = true ∧ fieldOf c = "argument" ∧ inV (.str c) [.str "WrongKind", .str "WrongSize", .str "OutOfRange"] = true := by
      rcases hc with rfl | rfl | rfl <;> decide +kernel
    obtain ⟨x1, x2, x3⟩ := hX
    refine wSeq_k ?_
    intro N8 hN8
    try walk_at "dl"
    have d1 : decide (((1 : Nat) : Int) = 1) = true := rfl
    rw [d1, if_neg (by decide)]
    simp only [ve]
    refine ⟨m1, ?_⟩
    rw [if_neg (by decide)]
    refine hN8 _ ?_
    clear hN8
    refine wSeq_k ?_
    intro N9 hN9
    try walk_at "dl"
    simp only [at0]
    intro p
    refine ⟨_, _, rfl, rfl, ?_⟩
    simp only [x3, Bool.false_eq_true, if_false]
    try walk_at "dl"
    unfold wXf
    walk_at "dl"
    refine ⟨x1, x2, m1, ?_⟩
    exact bodyR hq
theorem plD_up : ∀ {n : Nat} {d : D}, plD n d = true → plD (n + 1) d = true := by
  intro n
  induction n with
  | zero => intro d h; cases h
  | succ n ih =>
    have all : ∀ {l : List D}, (decide (l.length ≤ 1000) && l.all (plD n)) = true → (decide (l.length ≤ 1000) && l.all (plD (n + 1))) = true := fun {l} h => by
      rw [Bool.and_eq_true] at h ⊢
      exact ⟨h.1, List.all_eq_true.mpr fun x hx => ih (List.all_eq_true.mp h.2 x hx)⟩
    intro d h
    cases d with
    | lst l => exact all h
    | tup l => exact all h
    | _ => first | exact h | cases h
theorem plD_asT : ∀ {n : Nat} {d : D}, plD n d = true → plI n (asT d) = true ∧ plX true n (asT d) = true := by
  intro n
  induction n with
  | zero => intro d h; cases h
  | succ n ih =>
    have allI : ∀ {l : List D}, (l.length ≤ 1000 ∧ ∀ x ∈ l, plD n x = true) → (decide ((l.map asT).length ≤ 100000) && (l.map asT).all (plI n)) = true := fun {l} h => by
      rw [Bool.and_eq_true, decide_eq_true_eq, List.length_map]
      exact ⟨by omega, List.all_eq_true.mpr fun x hx => by obtain ⟨y, hy, rfl⟩ := List.mem_map.mp hx; exact (ih (h.2 y hy)).1⟩
    have allX : ∀ {l : List D}, (l.length ≤ 1000 ∧ ∀ x ∈ l, plD n x = true) → (decide ((l.map asT).length ≤ 100000) && (l.map asT).all (plX true n)) = true := fun {l} h => by
      rw [Bool.and_eq_true, decide_eq_true_eq, List.length_map]
      exact ⟨by omega, List.all_eq_true.mpr fun x hx => by obtain ⟨y, hy, rfl⟩ := List.mem_map.mp hx; exact (ih (h.2 y hy)).2⟩
    intro d h
    cases d with
    | lst l => rw [asT_lst]; exact ⟨allI (plD_lst h), allX (plD_lst h)⟩
    | tup l =>
      by_cases c : isM (.tup l) = true
      · obtain ⟨w, q, e, hT⟩ := isM_mdl c
        rw [e] at h ⊢
        rw [asT_mdl hT]
        obtain ⟨_, h1⟩ := plD_tup h
        have h2 := h1 (.lst (nD q)) (by simp)
        have h64 := hT.le
        have hn : ∃ k, n = k + 2 := by
          match n, h2 with
          | k + 2, _ => exact ⟨k, rfl⟩
          | 1, h2 =>
            have hl := hT.len
            have hp := Nat.two_pow_pos w
            match q, hl, h2 with
            | [], hl, _ => rw [List.length_nil] at hl; omega
            | a :: q, _, h2 =>
              have := (plD_lst h2).2 (.int (a : Nat)) (by unfold nD; simp)
              cases this
        obtain ⟨k, rfl⟩ := hn
        have a1 : ∀ x ∈ nD q, plI (k + 1) x = true := fun x hx => by obtain ⟨y, _, rfl⟩ := List.mem_map.mp hx; rfl
        have a2 : ∀ x ∈ nD q, plX true (k + 1) x = true := fun x hx => by obtain ⟨y, _, rfl⟩ := List.mem_map.mp hx; rfl
        have hl : (nD q).length ≤ 100000 := by unfold nD; rw [List.length_map]; omega
        constructor
        · show (plI (k + 2) (.int (w : Nat)) && (plI (k + 2) (.tup (nD q)) && true)) = true
          show (true && ((decide ((nD q).length ≤ 100000) && (nD q).all (plI (k + 1))) && true)) = true
          rw [decide_eq_true hl, List.all_eq_true.mpr a1]; rfl
        · show (true && (("Table" : Str) == "Table" && (plX true (k + 2) (.int (w : Nat)) && (plX true (k + 2) (.tup (nD q)) && true)))) = true
          show (true && (("Table" : Str) == "Table" && (true && ((decide ((nD q).length ≤ 100000) && (nD q).all (plX true (k + 1))) && true)))) = true
          rw [decide_eq_true hl, List.all_eq_true.mpr a2]; rfl
      · rw [Bool.not_eq_true] at c
        rw [asT_tup c]
        exact ⟨allI (plD_tup h), allX (plD_tup h)⟩
    | dic ks es => unfold asT; exact ⟨h, h⟩
    | non => unfold asT; exact ⟨rfl, rfl⟩
    | bl b => unfold asT; exact ⟨rfl, rfl⟩
    | int i => unfold asT; exact ⟨rfl, rfl⟩
    | str z => unfold asT; exact ⟨rfl, rfl⟩
    | _ => cases h
theorem plD_plI : ∀ {n : Nat} {d : D}, plD n d = true → plI n d = true := by
  intro n
  induction n with
  | zero => intro d h; cases h
  | succ n ih =>
    have all : ∀ {l : List D}, (l.length ≤ 1000 ∧ ∀ x ∈ l, plD n x = true) → (decide (l.length ≤ 100000) && l.all (plI n)) = true := fun {l} h => by
      rw [Bool.and_eq_true, decide_eq_true_eq]
      exact ⟨by omega, List.all_eq_true.mpr fun x hx => ih (h.2 x hx)⟩
    intro d h
    cases d with
    | lst l => exact all (plD_lst h)
    | tup l => exact all (plD_tup h)
    | dic ks es => exact h
    | non => rfl
    | bl b => rfl
    | int i => rfl
    | str z => rfl
    | _ => cases h
end C
set_option Elab.async false
set_option maxRecDepth 100000
set_option maxHeartbeats 1000000
set_option linter.unusedVariables false
namespace C
open PySem PySem.Spec PyProof.Rows L2 NdefX DL
local macro_rules | `(tactic| walk_at "dl") => `(tactic| simp only [wSeq, wMaxD, wMinD, roMaxD, roMinD, wLcO, wAppIx,  roAny,  wSpoilX, wSpoilEX, wSpoilVI, wSpoilEI, isDic, wDicC, wTupO, wLendID,  wCountF, wIndexF, wMvIxL,  wLc, wTrue, wRaise0, wRaiseL, wSplit, wJoin, wFs, wSlS1, wSlS2, wAug, wItemsC, wEnum, pStr, fStr, pIntS, fIntS, roInS, orF, NoExc, dgTwo, wItemsT, wSlS0, wIsdig, roMulS, roInL, wIndexS, wSum, pSum, fSum, lk_wide, lk_held, okT_T, wFld, wGet, wMeth, wOwn2, wOwnI, wOwn1, wOwnLen, wOwnStr, wRevT, wZip, wItemsLT, wTupD, wLstD, wMv, isOwn, insOf, iStm, iFld, iEnd, pSumT, fSumT, wNever, tb, eq_self, exists_eq_left', Option.some.injEq, lackN, wTruth, wMinL, roMinL, wEnum, wSlTo, wSlFrom, wPopAt, wLenO, wApp, fillD, List.getD_cons_zero, List.getD_cons_succ, dgPt, ptD, ptsD, wRng3, wUnp, wLcP, outs, ptIx, ptsIx, stillS_un, stillS_sh, backs, ends, wListR, wCountO, wFrz,  wIf, wNext, wBreak, wCont, wRet, wRetN, wDrop, wSet, wTest, wAndB, wOrB, wNotB, wIsi, wVar, wC, wOp, wRaise, wCall, wCons, wNil, wFun, wPar, wTup, wNeg, wUn, wIfE, wAndV, wOrV, wNotV, wUnp2, wLst, wIxO, wLenO, wSetIx, wAppend, wDic0, wFor, wItemsL, wItemsS, wRng1, wRng2, wListRev, dgName, roAdd, roI, roI0, roB, roIx, roIsN, roF, roL, datas, List.map_cons, List.map_nil, entry, List.length_cons, List.length_nil, List.cons_append, List.nil_append, List.replicate, List.replicate_succ, List.replicate_zero, Nat.reduceAdd, Nat.reduceSub, Nat.zero_add,
  List.getElem?_cons_zero, List.getElem?_cons_succ, List.set_cons_zero, List.set_cons_succ, dat_sh, dat_ow, dat_dp, DL.isInt, DL.isBool, DL.isStr, DL.isLst, DL.isTup, PinD, Bool.not_true, Bool.not_false, Bool.false_eq_true, if_true, if_false, true_and, and_true, OkAD, bodyEnds, pInt1, pInt2, fAbs, fMin, fMax, pIntOf, fIntOf, pLen, fLen, pSeq, fSeq, reduceIte, decide_eq_true_eq, ite_true, ite_false, Bool.and_eq_true, Bool.not_eq_true', roEq_int, Bool.true_xor, Bool.false_xor, Bool.true_eq_false])
section
variable {zf : Str}
def lens : List Nat := [1, 2, 4, 8, 16, 32, 64]
theorem lens_pow {n : Nat} (h : n ∈ lens) : ∃ w, w ≤ 6 ∧ n = 2 ^ w := by
  have all : ∀ n ∈ lens, ∃ w, w < 7 ∧ n = 2 ^ w := by decide
  obtain ⟨w, a, b⟩ := all n h
  exact ⟨w, by omega, b⟩
theorem pow_lens : ∀ w < 7, 2 ^ w ∈ lens := by decide
def FldC (zf : Str) (d : D) (r : Kd) : Prop := (∃ l, (d = .lst l ∨ d = .tup l) ∧ orF (insF okI isLst) (insF okI isTup) d = some true ∧ PinD [] d ∧ f_fieldL zf l = some r) ∨ ((∀ l, d ≠ .lst l) ∧ (∀ l, d ≠ .tup l) ∧ orF (insF okI isLst) (insF okI isTup) d = some false ∧ PinD [] d ∧ (∃ b, isJ d = some b) ∧ r = .error (Er1 "WrongKind" zf))
theorem field_no {d : D} {r : Kd} (h : f_field zf d = some r) (n1 : ∀ l, d ≠ .lst l) (n2 : ∀ l, d ≠ .tup l) (e1 : f_field zf d = (isJ d).map fun _ => .error (Er1 "WrongKind" zf)) (e2 : rowJ d 0 0 = (isJ d).map fun _ => some ("WrongKind" : Str)) : FldC zf d r := by
  rw [e1] at h
  cases hj : isJ d with
  | none => rw [hj] at h; cases h
  | some b =>
    rw [hj] at h e2
    injection h with h
    refine .inr ⟨n1, n2, ?_, (isJ_walk hj).1, ⟨b, hj⟩, h.symm⟩
    rcases rowJ_cases e2 with ⟨l, hd, _⟩ | ⟨_, q, _⟩ | ⟨_, q, _⟩
    · rcases hd with hd | hd
      · exact absurd hd (n1 l)
      · exact absurd hd (n2 l)
    · exact q
    · exact q
theorem field_cases {d : D} {r : Kd} (h : f_field zf d = some r) : FldC zf d r := by
  cases d with
  | lst l => exact .inl ⟨l, .inl rfl, rfl, trivial, h⟩
  | tup l => exact .inl ⟨l, .inr rfl, rfl, trivial, h⟩
  | _ => exact field_no h (fun l z => by cases z) (fun l z => by cases z) rfl rfl
theorem fieldL_cases {l : List D} {r : Kd} (h : f_fieldL zf l = some r) : (l.length ∈ lens ∧ itemsK (fitK zf) l = some r) ∨ (l.length ∉ lens ∧ r = .error (Er1 "WrongSize" zf)) := by
  unfold f_fieldL at h
  by_cases c : l.length ∈ ([1, 2, 4, 8, 16, 32, 64] : List Nat)
  · rw [if_pos c] at h; exact .inl ⟨c, h⟩
  · rw [if_neg c] at h; injection h with h; exact .inr ⟨c, h.symm⟩
theorem fitems_ok : ∀ {l : List D} {v : D}, itemsK (fitK zf) l = some (.ok v) → v = .non ∧ ∃ r, l = iD r
  | [], v, h => by injection h with h; injection h with h; exact ⟨h.symm, [], rfl⟩
  | d :: l, v, h => by
    simp only [itemsK, fitK] at h
    cases hj : isJ d with
    | none => rw [hj] at h; cases h
    | some b =>
      rw [hj] at h
      cases b with
      | false => cases h
      | true =>
        obtain ⟨i, rfl⟩ := isJ_int hj
        obtain ⟨a, r, rfl⟩ := fitems_ok (l := l) h
        exact ⟨a, i :: r, rfl⟩
theorem fitems_iD : ∀ r : List Int, itemsK (fitK zf) (iD r) = some (.ok .non)
  | [] => rfl
  | i :: r => fitems_iD r
theorem fitems_err : ∀ {l : List D} {e : Er}, itemsK (fitK zf) l = some (.error e) → e = Er1 "WrongKind" zf
  | [], e, h => by injection h with h; cases h
  | d :: l, e, h => by
    simp only [itemsK, fitK] at h
    cases hj : isJ d with
    | none => rw [hj] at h; cases h
    | some b =>
      rw [hj] at h
      cases b with
      | false => injection h with h; injection h with h; exact h.symm
      | true => exact fitems_err (l := l) h
theorem field_good {w : Nat} {d : D} {r : List Int} (h : rowI d r) (hl : r.length = 2 ^ w) (hw : w ≤ 6) : f_field zf d = some (.ok .non) := by
  have e : f_fieldL zf (iD r) = some (.ok .non) := by
    unfold f_fieldL
    rw [if_pos (by rw [iD_len, hl]; exact pow_lens w (by omega)), fitems_iD]
  rcases h with rfl | rfl <;> exact e
theorem in_lens {n : Nat} : inV (.int (n : Nat)) (lens.map fun (u : Nat) => V.int (u : Nat)) = decide (n ∈ lens) := in_nats
theorem fld_loop (hz : zf.length ≤ 1000) {d : D} {r : Kd} {Q : Sl → Prop} {E' : Er → Prop} (hq : ends r Q E') : ∀ (l : List D) (x : Sl), itemsK (fitK zf) l = some r →
    forD (dgName 2) (wSeq (wIf (wNotB (wTest (wCall W_whole (wCons (wVar 2) wNil)))) (wSeq (wRaise "WrongKind" (wVar 1)) wNext) wNext) wNext) { nx := fun _ => ∃ y, Cv (.sh .non) y ∧ Q y, rt := fun x _ => ∃ y, Cv x y ∧ Q y } (fun e _ => E' e) l [.sh d, .sh (.str zf), x] := fun l x h => by
  refine forD_ind (fun l ρ => (∃ x, ρ = [.sh d, .sh (.str zf), x]) ∧ itemsK (fitK zf) l = some r) ?_ ?_ _ _ ⟨⟨_, rfl⟩, h⟩
  · rintro ρ ⟨⟨x, rfl⟩, hz⟩
    injection hz with hz
    subst hz
    exact bodyR hq
  · rintro d1 l ρ ⟨⟨x, rfl⟩, hz⟩ K hK
    simp only [dgName, itemsK, fitK] at hz ⊢
    cases hj : isJ d1 with
    | none => rw [hj] at hz; cases hz
    | some b =>
      rw [hj] at hz
      walk_at "dl"
      refine ⟨d1, b, rfl, hj, ?_⟩
      cases b with
      | true =>
        try walk_at "dl"
        exact hK _ ⟨⟨_, rfl⟩, hz⟩
      | false =>
        try walk_at "dl"
        injection hz with hz
        subst hz
        exact ⟨by omega, hq⟩
end
section
variable {zf : Str}
theorem sat_check_field : ∀ ds Q E', W_check_field ds Q E' → p_check_field (bodyEnds Q) (entry 3 ds) (fun e _ => E' e) := by
  rintro ds Q E' ⟨zf, d, r, rfl, hz, hf, hq⟩
  unfold p_check_field
  refine wSeq_k ?_
  intro N1 hN1
  walk_at "dl"
  rcases field_cases hf with ⟨l, hd, _, _, hl⟩ | ⟨n1, n2, _, _, ⟨b, hj⟩, rfl⟩
  · refine (show W_check_row_shades [d, .str zf] _ _ from ?_)
    have e : f_rowS [d, .str zf] = some (.ok .non) := by
      rcases hd with rfl | rfl
      · exact (if_pos hz : (if zf.length ≤ 1000 then (some (.ok .non) : Option Kd) else none) = _)
      · exact (if_pos hz : (if zf.length ≤ 1000 then (some (.ok .non) : Option Kd) else none) = _)
    unfold W_check_row_shades WF
    rw [e]
    show N1 _
    refine hN1 _ ?_
    clear hN1
    rcases hd with rfl | rfl
    all_goals
      refine wSeq_k ?_
      intro N2 hN2
      walk_at "dl"
      refine ⟨_, _, rfl, flats_nD lens, ?_⟩
      rw [in_lens]
      try walk_at "dl"
      rcases fieldL_cases hl with ⟨c1, c2⟩ | ⟨c1, rfl⟩
      · rw [if_neg (by rw [decide_eq_true c1]; decide)]
        refine hN2 _ ?_
        clear hN2
        walk_at "dl"
        exact fld_loop hz hq l _ c2
      · rw [if_pos (by rw [decide_eq_false c1])]
        exact ⟨by omega, hq⟩
  · have e : f_rowS [d, .str zf] = some (.error (Er1 "WrongKind" zf)) := by
      cases d with
      | lst l => exact absurd rfl (n1 l)
      | tup l => exact absurd rfl (n2 l)
      | _ => exact (if_pos hz : (if zf.length ≤ 1000 then (isJ _).map (fun _ => (.error (Er1 "WrongKind" zf) : Kd)) else none) = _).trans (congrArg (Option.map _) hj)
    unfold W_check_row_shades WF
    rw [e]
    exact hq
theorem flt_non {x : D} {b : Bool} (h : isJ x = some b) : fltJ x .non .non = some (if b = true then "" else "WrongKind") := by
  cases x with
  | int i => injection h with h; subst h; rfl
  | ins c f ds =>
    obtain ⟨h1, rfl⟩ := isJ_ins h
    exact if_pos h1
  | _ => first | (injection h with h; subst h; rfl) | cases h
theorem wk_lay : PyData.canLay0 (.str "WrongKind") = true := by decide +kernel
theorem ws_lay : PyData.canLay0 (.str "WrongSize") = true := by decide +kernel
theorem em_lay : PyData.canLay0 (.str "") = true := by decide +kernel
theorem fd_lay : PyData.canLay0 (.str "field") = true := by decide +kernel
theorem fe_lay {d : D} {r : Kd} (h : f_field zf d = some r) : PyData.canLay0 (.str (fltE r)) = true := by
  rcases field_cases h with ⟨l, _, _, _, hl⟩ | ⟨_, _, _, _, _, rfl⟩
  · rcases fieldL_cases hl with ⟨_, h2⟩ | ⟨_, rfl⟩
    · cases r with
      | ok v => exact em_lay
      | error e => rw [fitems_err h2]; exact wk_lay
    · exact ws_lay
  · exact wk_lay
theorem flt_loop {d : D} {r : Kd} {Q : Sl → Prop} {E' : Er → Prop} {N : DEnv → Prop} (hN : ∀ s5 s6, r = .ok .non → N [.sh d, .sh (.int 1), .sh (.int 64), .sh .non, .sh .non, s5, s6]) (hq : Q (.sh (.str (fltE r)))) : ∀ (l : List D) (s5 s6 : Sl), itemsK (fitK zf) l = some r →
    forD (dgName 5) (wSeq (wSet 6 (wCall W_law_number_fault_iv (wCons (wVar 5) (wCons (wVar 3) (wCons (wVar 4) wNil))))) (wSeq (wIf (wTest (wOp (roEq true) (wVar 6) (wC (.str "")))) (wSeq (wRet (wVar 6)) wNext) wNext) wNext)) { bodyEnds Q with nx := N } (fun e _ => E' e) l [.sh d, .sh (.int 1), .sh (.int 64), .sh .non, .sh .non, s5, s6] := fun l s5 s6 h => by
  refine forD_ind (fun l ρ => (∃ s5 s6, ρ = [.sh d, .sh (.int 1), .sh (.int 64), .sh .non, .sh .non, s5, s6]) ∧ itemsK (fitK zf) l = some r) ?_ ?_ _ _ ⟨⟨_, _, rfl⟩, h⟩
  · rintro ρ ⟨⟨s5, s6, rfl⟩, hz⟩
    injection hz with hz
    exact hN _ _ hz.symm
  · rintro d1 l ρ ⟨⟨s5, s6, rfl⟩, hz⟩ K hK
    simp only [dgName, itemsK, fitK] at hz ⊢
    cases hj : isJ d1 with
    | none => rw [hj] at hz; cases hz
    | some b =>
      rw [hj] at hz
      have hf := flt_non hj
      refine wSeq_k ?_
      intro N9 hN9
      walk_at "dl"
      refine call_nfJ hf ?_
      refine hN9 _ ?_
      clear hN9
      refine wSeq_i ?_
      walk_at "dl"
      cases b with
      | true =>
        refine eq_str em_lay em_lay ?_
        try walk_at "dl"
        exact hK _ ⟨⟨_, _, rfl⟩, hz⟩
      | false =>
        refine eq_str wk_lay em_lay ?_
        try walk_at "dl"
        injection hz with hz
        subst hz
        exact bodyR hq
theorem sat_law_row_faultN : ∀ ds Q E', W_law_row_faultN ds Q E' → p_law_row_faultN (bodyEnds Q) (entry 7 ds) (fun e _ => E' e) := by
  rintro ds Q E' ⟨zf, d, r, rfl, hf, hm, hq⟩
  unfold p_law_row_faultN
  refine wSeq_k ?_
  intro N1 hN1
  refine wIf_k ?_
  intro A1 B1 hA1 hB1
  unfold wNotB wTest
  rcases field_cases hf with ⟨l, hd, hf1, hp, hl⟩ | ⟨_, _, hf1, hp, _, rfl⟩
  · refine wIsi_var rfl rfl hf1 hp ?_
    try walk_at "dl"
    refine hB1 _ ?_
    walk_at "dl"
    refine hN1 _ ?_
    clear hN1
    have hm := hm l hd
    obtain ⟨w, hw, el⟩ := lens_pow hm
    have h64 : 2 ^ w ≤ 2 ^ 6 := Nat.pow_le_pow_right (by decide) hw
    have hp := Nat.two_pow_pos w
    have hi := (fieldL_cases hl).resolve_right fun z => z.1 hm
    rcases hd with rfl | rfl
    all_goals
      refine wSeq_k ?_
      intro N2 hN2
      walk_at "dl"
      rw [if_neg (by omega), if_neg (by omega)]
      refine hN2 _ ?_
      clear hN2
      refine wSeq_k ?_
      intro N3 hN3
      walk_at "dl"
      refine flt_loop (fun s5 s6 e => ?_) hq l _ _ hi.2
      refine hN3 _ ?_
      clear hN3
      refine wSeq_i ?_
      walk_at "dl"
      subst e
      exact bodyR hq
  · refine wIsi_var rfl rfl hf1 hp ?_
    try walk_at "dl"
    refine hA1 _ ?_
    walk_at "dl"
    exact bodyR hq
theorem sat_law_field_fault : ∀ ds Q E', W_law_field_fault ds Q E' → p_law_field_fault (bodyEnds Q) (entry 1 ds) (fun e _ => E' e) := by
  rintro ds Q E' ⟨zf, d, r, rfl, hf, hq⟩
  unfold p_law_field_fault
  refine wSeq_k ?_
  intro N1 hN1
  refine wIf_k ?_
  intro A1 B1 hA1 hB1
  unfold wAndB wTest
  rcases field_cases hf with ⟨l, hd, hf1, hp, hl⟩ | ⟨n1, n2, hf1, hp, _, rfl⟩
  · refine wIsi_var rfl rfl hf1 hp ?_
    try walk_at "dl"
    rcases hd with rfl | rfl
    all_goals
      try walk_at "dl"
      intro p
      refine ⟨_, _, rfl, flats_nD lens, ?_⟩
      rw [in_lens]
      try walk_at "dl"
      rcases fieldL_cases hl with ⟨c1, c2⟩ | ⟨c1, rfl⟩
      · rw [if_neg (by rw [decide_eq_true c1]; decide)]
        refine hB1 _ ?_
        walk_at "dl"
        refine hN1 _ ?_
        clear hN1
        refine wSeq_i ?_
        walk_at "dl"
        refine ⟨zf, _, r, rfl, hf, (fun l2 h2 => ?_), bodyR hq⟩
        rcases h2 with h2 | h2
        all_goals
          cases h2 <;> exact c1
      · rw [if_pos (by rw [decide_eq_false c1])]
        refine hA1 _ ?_
        walk_at "dl"
        exact bodyR hq
  · refine wIsi_var rfl rfl hf1 hp ?_
    try walk_at "dl"
    refine hB1 _ ?_
    walk_at "dl"
    refine hN1 _ ?_
    clear hN1
    refine wSeq_i ?_
    walk_at "dl"
    exact ⟨zf, d, _, rfl, hf, (fun l h => (h.elim (n1 l) (n2 l)).elim), bodyR hq⟩
end
theorem sat_steppedO : ∀ ds Q E', W_steppedO ds Q E' → p_steppedO (bodyEnds Q) (entry 5 ds) (fun e _ => E' e) := by
  rintro ds Q E' ⟨w, p, r, rfl, hr, hp, hw, hq⟩
  have h64 : 2 ^ w ≤ 64 := Nat.pow_le_pow_right (n := 2) (by decide) hw
  have e1 : (1 : Int) * 2 ^ ((p : Nat) : Int).toNat = ((2 ^ p : Nat) : Int) := by rw [Int.toNat_natCast, Int.one_mul, pow_i]
  unfold p_steppedO
  refine wSeq_k ?_
  intro N1 hN1
  walk_at "dl"
  rw [e1]
  refine ⟨⟨by omega, by omega, by decide⟩, hN1 _ ?_⟩
  refine wSeq_k ?_
  intro N2 hN2
  walk_at "dl"
  intro q
  refine hN2 _ ?_
  refine wSeq_k ?_
  intro N3 hN3
  walk_at "dl"
  refine ⟨by rw [iD_len]; omega, ?_⟩
  rw [iD_len, Int.toNat_natCast]
  refine forD_rng (n := r.length) (fun k ρ => ∃ q x, ρ = [.sh (.lst (iD r)), .sh (.int (p : Nat)), .sh (.int (2 ^ p : Nat)), .ow q (iD ((bfly p r).take k)), x]) ?_ ?_ ⟨_, _, by rw [List.take_zero]; rfl⟩
  · rintro ρ ⟨q, x, rfl⟩
    refine hN3 _ ?_
    refine wSeq_i ?_
    walk_at "dl"
    have et : (bfly p r).take r.length = bfly p r := List.take_of_length_le (by rw [bfly_len]; exact Nat.le_refl _)
    rw [et]
    exact ⟨_, .refl _, hq _⟩
  · rintro k ρ hk ⟨q, x, rfl⟩ K hK
    simp only [dgName]
    walk_at "dl"
    have hk2 : k < 2 ^ w := by rw [← hr]; exact hk
    have hk64 : k < 64 := by omega
    have hp6 : p < 6 := by omega
    have hg := gap_and k hk64 p hp6
    have hs : (iD ((bfly p r).take k)).length < sizeLine := by rw [iD_len, List.length_take, bfly_len, sizeLine_eq]; omega
    have hb := bfly_get (p := p) hk
    have hsn := iD_snoc (r := bfly p r) (k := k) (by rw [bfly_len]; exact hk)
    rw [band_n]
    by_cases h1 : k / 2 ^ p % 2 = 1
    · have hc : ((((k &&& 2 ^ p : Nat) : Int)) != 0) = true := by
        rw [bne_iff_ne]
        intro z
        have z2 : k &&& 2 ^ p = 0 := by omega
        rw [hg] at z2
        omega
      rw [if_pos hc]
      obtain ⟨d1, _, _⟩ := bit_dn h1
      rw [bxor_n, gap_xor1 k hk64 p hp6 h1]
      refine ⟨_, atD_iD (Int.natCast_nonneg _) (by omega), _, atD_iD (Int.natCast_nonneg _) (by omega), ?_⟩
      refine ⟨hs, hK _ ⟨q, .sh (.int k), ?_⟩⟩
      rw [Int.toNat_natCast, Int.toNat_natCast, ← hsn, hb, if_pos h1]
    · have hc : ¬ (((((k &&& 2 ^ p : Nat) : Int)) != 0) = true) := by
        rw [bne_iff_ne]
        intro z
        apply z
        have z2 : k &&& 2 ^ p = 0 := by rw [hg]; omega
        rw [z2]; rfl
      rw [if_neg hc]
      have hu := bit_up hp hk2 (show k / 2 ^ p % 2 = 0 by omega)
      rw [bor_n, gap_or0 k hk64 p hp6 (by omega)]
      refine ⟨_, atD_iD (Int.natCast_nonneg _) (by omega), _, atD_iD (Int.natCast_nonneg _) (by omega), ?_⟩
      refine ⟨hs, hK _ ⟨q, .sh (.int k), ?_⟩⟩
      rw [Int.toNat_natCast, Int.toNat_natCast, ← hsn, hb, if_neg h1]
theorem sat_all_stepsO : ∀ ds Q E', W_all_stepsO ds Q E' → p_all_stepsO (bodyEnds Q) (entry 3 ds) (fun e _ => E' e) := by
  rintro ds Q E' ⟨w, d, r, rfl, hd, hr, hw, hq⟩
  unfold p_all_stepsO
  rcases hd with rfl | rfl
  all_goals
    refine wSeq_k ?_
    intro N1 hN1
    walk_at "dl"
    intro q
    refine hN1 _ ?_
    clear hN1
    refine wSeq_k ?_
    intro N2 hN2
    walk_at "dl"
    rw [iD_len, hr]
    refine ⟨w, rfl, hw, ?_⟩
    try walk_at "dl"
    refine ⟨by omega, ?_⟩
    rw [Int.toNat_natCast]
    refine forD_rng (n := w) (fun k ρ => ∃ q d x, ρ = [.sh d, .ow q (iD (bflys r k)), x]) ?_ ?_ ⟨q, _, _, rfl⟩
    · rintro ρ ⟨q, d, x, rfl⟩
      refine hN2 _ ?_
      clear hN2
      refine wSeq_i ?_
      walk_at "dl"
      exact ⟨_, .refl _, hq _⟩
    · rintro k ρ hk ⟨q, d, x, rfl⟩ K hK
      simp only [dgName]
      try walk_at "dl"
      refine ⟨w, k, _, rfl, by rw [bflys_len, hr], hk, hw, fun q2 => ?_⟩
      exact hK _ ⟨q2, d, _, rfl⟩
theorem sat_quick_field : ∀ ds Q E', W_quick_field ds Q E' → p_quick_field (bodyEnds Q) (entry 1 ds) (fun e _ => E' e) := by
  rintro ds Q E' ⟨d, r, rfl, hv, hq1, hq2⟩
  unfold p_quick_field
  refine wSeq_k ?_
  intro N1 hN1
  walk_at "dl"
  cases hv with
  | bad he => exact ⟨_, d, _, rfl, by decide +kernel, he, hq2 _ rfl⟩
  | @good w r hd hl hw =>
    refine ⟨_, d, _, rfl, by decide +kernel, field_good hd hl hw, ?_⟩
    show N1 _
    refine hN1 _ ?_
    clear hN1
    refine wSeq_i ?_
    walk_at "dl"
    exact ⟨w, d, r, rfl, hd, hl, hw, fun q => ⟨_, .refl _, hq1 _ rfl q⟩⟩
theorem noM_leaf {d : D} (h : ∀ l, d ≠ .tup l) : isM d = false := by
  cases d with
  | tup l => exact absurd rfl (h l)
  | _ => rfl
theorem sat_law_odd_numberN : ∀ ds Q E', W_law_odd_numberN ds Q E' → p_law_odd_numberN (bodyEnds Q) (entry 6 ds) (fun e _ => E' e) := by
  rintro ds Q E' ⟨rfl, hq⟩
  have hi : ∀ i : Int, Bd 300 i → Q (.sh (.int i)) := fun i h => hq _ ⟨rfl, rfl, rfl, fun j e => by cases e; exact h⟩
  have odd2 : ∀ (r a b : Int), 8 ≤ r → r < 14 → a = 0 → b = 0 → ∃ x, atD [D.int (a - 1), .int (b + 1), .int (a - 10 ^ Int.toNat 40), .int (b + 10 ^ Int.toNat 40), .int a, .int b] (r - 8) = some x ∧ ∃ y, Cv (Sl.sh x) y ∧ Q y := fun r a b h0 h1 ha hb => by
    subst ha hb
    obtain ⟨x, hx, e⟩ := atD_in (l := [D.int (0 - 1), .int (0 + 1), .int (0 - 10 ^ Int.toNat 40), .int (0 + 10 ^ Int.toNat 40), .int 0, .int 0]) (i := r - 8) (by omega) (by simp only [List.length_cons, List.length_nil]; omega)
    simp only [List.mem_cons, List.not_mem_nil, or_false] at hx
    refine ⟨x, e, bodyR ?_⟩
    rcases hx with rfl | rfl | rfl | rfl | rfl | rfl <;> exact hi _ (by unfold Bd; decide +kernel)
  have odd1 : ∀ r : Int, 0 ≤ r → r < 8 → ∃ x, atD [D.non, .bl true, .bl false, .str "", .str "1", .lst [.int 0], .tup [.int 1], .dic [] []] r = some x ∧ ∃ y, Cv (Sl.sh x) y ∧ Q y := fun r h0 h1 => by
    obtain ⟨x, hx, e⟩ := atD_in (l := [D.non, .bl true, .bl false, .str "", .str "1", .lst [.int 0], .tup [.int 1], .dic [] []]) h0 (by simpa using h1)
    simp only [List.mem_cons, List.not_mem_nil, or_false] at hx
    refine ⟨x, e, bodyR ?_⟩
    rcases hx with rfl | rfl | rfl | rfl | rfl | rfl | rfl | rfl
    · exact hq _ ⟨rfl, rfl, rfl, fun i e => by cases e⟩
    · exact hq _ ⟨rfl, rfl, rfl, fun i e => by cases e⟩
    · exact hq _ ⟨rfl, rfl, rfl, fun i e => by cases e⟩
    · exact hq _ ⟨by decide +kernel, rfl, rfl, fun i e => by cases e⟩
    · exact hq _ ⟨by decide +kernel, rfl, rfl, fun i e => by cases e⟩
    · exact hq _ ⟨rfl, rfl, rfl, fun i e => by cases e⟩
    · exact hq _ ⟨rfl, rfl, rfl, fun i e => by cases e⟩
    · exact hq _ ⟨rfl, rfl, rfl, fun i e => by cases e⟩
  unfold p_law_odd_numberN
  refine wSeq_k ?_
  intro N1 hN1
  walk_at "dl"
  refine hN1 _ ?_
  clear hN1
  refine wSeq_k ?_
  intro N2 hN2
  walk_at "dl"
  refine hN2 _ ?_
  clear hN2
  refine wSeq_k ?_
  intro N3 hN3
  walk_at "dl"
  refine hN3 _ ?_
  clear hN3
  refine wSeq_k ?_
  intro N4 hN4
  walk_at "dl"
  refine hN4 _ ?_
  clear hN4
  refine wSeq_k ?_
  intro N5 hN5
  walk_at "dl"
  refine call_take (bd_le0 (n := 5) (by decide) (by decide)) fun r h0 h1 => hN5 _ ?_
  refine wSeq_k ?_
  intro N6 hN6
  unfold wIf wTest
  simp only [wLt, wVar, wC, wOp, roB, List.getElem?_cons_zero, List.getElem?_cons_succ, dat_sh]
  simp only [decide_eq_true_eq]
  by_cases hr : r < 8
  · rw [if_pos hr]
    refine wSeq_i ?_
    unfold wRet
    unfold wIx
    unfold wOp
    unfold wLst
    simp only [wCons, wC, wNil, wTup, wDic0, wCall, wVar, datas, List.map_cons, List.map_nil, dat_sh, dat_ow, List.set_cons_succ, List.set_cons_zero, List.getElem?_cons_succ, List.getElem?_cons_zero, roIx, bodyEnds]
    intro p1 p2
    exact odd1 r h0 hr
  · rw [if_neg hr]
    refine hN6 _ ?_
    clear hN6
    refine wSeq_i ?_
    walk_at "dl"
    exact ⟨cpow, cpow, fun _ => odd2 r _ _ (by omega) (by omega) rfl rfl⟩
def odN (k : Nat) : List Nat := (List.range (2 ^ k)).map fun z => popN z % 2
theorem odN_step {k : Nat} (h : k < 6) : nD (odN k) ++ (odN k).map (fun (n : Nat) => D.int (1 - (n : Int))) = nD (odN (k + 1)) := by
  have all : ∀ k < 6, odN k ++ (odN k).map (fun n => 1 - n) = odN (k + 1) := by decide +kernel
  have bit : ∀ n ∈ odN k, n ≤ 1 := fun n hn => by
    obtain ⟨z, _, rfl⟩ := List.mem_map.mp hn
    have := Nat.mod_lt (popN z) (show 0 < 2 by decide)
    omega
  rw [← all k h]
  unfold nD
  rw [List.map_append, List.map_map]
  congr 1
  refine List.map_congr_left fun n hn => ?_
  have := bit n hn
  show D.int (1 - (n : Int)) = D.int ((1 - n : Nat) : Int)
  congr 1
  omega
theorem odN_at {m : Nat} (h : m < 64) : atD (nD (odN 6)) ((m : Nat) : Int) = some (.int (popN m % 2 : Nat)) := by
  have e : nD (odN 6) = (List.range 64).map fun z => D.int (popN z % 2 : Nat) := by
    unfold nD odN
    rw [List.map_map]; rfl
  rw [e]
  unfold atD atI
  rw [ix_in (by omega) (by rw [List.length_map, List.length_range]; omega), Int.toNat_natCast]
  show ((List.range 64).map fun z => D.int (popN z % 2 : Nat))[m]? = _
  rw [List.getElem?_map, List.getElem?_range h]; rfl
theorem plain_get {w x : Nat} {r : List Int} (hr : r.length = 2 ^ w) (hw : w ≤ 6) (hx : x < 2 ^ w) : (bflys r w).getD x 0 = ((List.range (2 ^ w)).map fun y => r.getD y 0 * (1 - 2 * ((popN (x &&& y) % 2 : Nat) : Int))).sum := by
  rw [bflys_get hr (Nat.le_refl w) hx]
  have e0 : x / 2 ^ w * 2 ^ w = 0 := by rw [Nat.div_eq_of_lt hx, Nat.zero_mul]
  rw [e0, sumI_list]
  refine sumI_congr fun y hy => ?_
  rw [Nat.zero_add, chi_par (by omega) hx, Int.mul_comm]
theorem mul_bdE {n m : Nat} {a b : Int} (h : Bd n a) (k : Bd m b) (hn : 0 < n ∧ n ≤ 5000) (hm : 0 < m ∧ m ≤ 5000) : CMulA a b := .inr (by
  have h1 := bd_log hn.1 h
  have h2 := bd_log hm.1 k
  unfold CMulW
  omega)
theorem sum_iDm2 (l : List Nat) (f : Nat → Int) : ((l.map fun x => D.int (f x)).map intOf).sum = (l.map f).sum := by
  rw [List.map_map]; rfl
theorem ints_m2 (l : List Nat) (f : Nat → Int) : ∃ ns, (l.map fun x => D.int (f x)) = List.map D.int ns := ⟨l.map f, by rw [List.map_map]; rfl⟩
theorem sat_law_plain : ∀ ds Q E', W_law_plain ds Q E' → p_law_plain (bodyEnds Q) (entry 7 ds) (fun e _ => E' e) := by
  rintro ds Q E' ⟨w, d, r, rfl, hd, hr, hw, hb, hq⟩
  have p64 : 2 ^ w ≤ 64 := Nat.pow_le_pow_right (n := 2) (by decide) hw
  unfold p_law_plain
  refine wSeq_k ?_
  intro N1 hN1
  walk_at "dl"
  intro p
  refine hN1 _ ?_
  clear hN1
  refine wSeq_k ?_
  intro N2 hN2
  walk_at "dl"
  have od0 : [D.int 0] = nD (odN 0) := rfl
  rw [od0]
  refine ⟨by decide, forD_rng (n := 6) (fun k ρ => ∃ s, ρ = [.sh d, .sh (.lst (nD (odN k))), s, .un, .un, .un, .un]) ?_ ?_ ⟨_, rfl⟩⟩
  · rintro ρ ⟨s, rfl⟩
    refine hN2 _ ?_
    clear hN2
    have fin : ∀ N3 : DS, N3 = (wSeq (wRet (wLc 4 (wRng1 (wCons (wVar 3) wNil)) wTrue (wSum (wCons (wLc 6 (wRng1 (wCons (wVar 3) wNil)) wTrue (wMul (wIx (wVar 0) (wVar 6)) (wSub (wC (.int 1)) (wMul (wC (.int 2)) (wIx (wVar 1) (wAnd2 (wVar 4) (wVar 6))))))) wNil)))) wNext) → N3 (bodyEnds Q) [.sh d, .sh (.lst (nD (odN 6))), s, .sh (.int (2 ^ w : Nat)), .un, .un, .un] (fun e _ => E' e) := by
      rintro N3 rfl
      refine wSeq_i ?_
      walk_at "dl"
      refine ⟨by omega, ?_⟩
      rw [Int.toNat_natCast]
      refine lc_rowN (fun x => .int ((bflys r w).getD x 0)) (by omega) rfl (fun x hx Q0 E0 q0 => ?_) fun q2 => ?_
      · try walk_at "dl"
        refine ⟨by omega, ?_⟩
        rw [Int.toNat_natCast]
        have hx64 : x < 64 := by omega
        refine lc_rowN (fun y => .int (r.getD y 0 * (1 - 2 * ((popN (x &&& y) % 2 : Nat) : Int)))) (by omega) rfl (fun y hy Q1 E1 q1 => ?_) fun q3 => ?_
        · have hy64 : y < 64 := by omega
          have hi : atD (iD r) ((y : Nat) : Int) = some (.int (r.getD y 0)) := atD_iD (Int.natCast_nonneg _) (by rw [hr]; omega)
          have hyr : Bd 5000 (r.getD y 0) := hb _ (by
            have hl : y < r.length := by rw [hr]; exact hy
            rw [List.getD_eq_getElem?_getD, List.getElem?_eq_getElem hl]
            exact List.getElem_mem hl)
          have hm : x &&& y < 64 := Nat.lt_of_le_of_lt Nat.and_le_left hx64
          have h2 := Nat.mod_lt (popN (x &&& y)) (show 0 < 2 by decide)
          have hz : Bd 3 (1 - 2 * ((popN (x &&& y) % 2 : Nat) : Int)) := by
            show (1 - 2 * ((popN (x &&& y) % 2 : Nat) : Int)).natAbs < 2 ^ 3
            omega
          rcases hd with rfl | rfl
          all_goals
            try walk_at "dl"
            refine ⟨_, hi, ?_⟩
            rw [band_n]
            refine ⟨_, odN_at hm, ?_⟩
            refine ⟨.inl (.inl ⟨by omega, by omega⟩), mul_bdE hyr hz (by omega) (by omega), ?_⟩
            exact q1
        · refine ⟨ints_m2 _ _, ?_⟩
          rw [sum_iDm2, ← plain_get hr hw hx]
          exact q0
      · have e : (List.range (2 ^ w)).map (fun x => D.int ((bflys r w).getD x 0)) = iD (bflys r w) := by
          have hl : (bflys r w).length = 2 ^ w := by rw [bflys_len, hr]
          unfold iD
          rw [← hl]
          refine List.ext_getElem (by rw [List.length_map, List.length_map, List.length_range]) fun i h1 h2 => ?_
          rw [List.getElem_map, List.getElem_map, List.getElem_range, List.getD_eq_getElem?_getD, List.getElem?_eq_getElem (by simpa using h2)]
          rfl
        rw [e]
        exact ⟨_, .sh _ (fun z => by cases z), hq⟩
    rcases hd with rfl | rfl
    all_goals
      refine wSeq_k ?_
      intro N3 hN3
      walk_at "dl"
      rw [iD_len, hr]
      refine hN3 _ ?_
      clear hN3
      exact fin _ rfl
  · rintro k ρ hk ⟨s, rfl⟩ K hK
    simp only [dgName]
    have hl : (odN k).length ≤ 64 := by
      unfold odN
      rw [List.length_map, List.length_range]
      exact Nat.pow_le_pow_right (n := 2) (i := k) (j := 6) (by decide) (by omega)
    try walk_at "dl"
    have em : nD (odN k) = (odN k).map fun (n : Nat) => D.int n := rfl
    rw [em]
    refine lcD_all (fun (x : Nat) => D.int x) (fun (x : Nat) => D.int (1 - (x : Int))) (odN k) (fun x hx Q0 E0 q0 => ?_) rfl (by omega) fun p5 => ⟨by rw [List.length_map, List.length_map, sizeLine_eq]; omega, fun p6 => ?_⟩
    · walk_at "dl"
      exact q0
    · rw [← em, odN_step hk]
      exact hK _ ⟨_, rfl⟩
theorem ints_of {P : Int → Prop} : ∀ {ys : List D}, (∀ y ∈ ys, ∃ j, y = .int j ∧ P j) → ∃ r : List Int, ys = iD r ∧ ∀ j ∈ r, P j
  | [], _ => ⟨[], rfl, fun j h => by cases h⟩
  | y :: ys, h => by
    obtain ⟨j, rfl, hj⟩ := h y List.mem_cons_self
    obtain ⟨r, rfl, hr⟩ := ints_of (ys := ys) fun z hz => h z (List.mem_cons_of_mem _ hz)
    refine ⟨j :: r, rfl, fun z hz => ?_⟩
    rcases List.mem_cons.mp hz with rfl | hz
    · exact hj
    · exact hr z hz
theorem sat_law_odd_fieldX : ∀ ds Q E', W_law_odd_fieldX ds Q E' → p_law_odd_fieldX (bodyEnds Q) (entry 7 ds) (fun e _ => E' e) := by
  rintro ds Q E' ⟨w, r, rfl, hr, w6, hb, hq⟩
  have p64 : 2 ^ w ≤ 64 := Nat.pow_le_pow_right (n := 2) (by decide) w6
  have pp := Nat.two_pow_pos w
  have oi : ∀ i : Int, Bd 300 i → oddN (.int i) := fun i h => ⟨rfl, rfl, rfl, fun j e => by cases e; exact h⟩
  have ob : ∀ x : D, x ∈ iD r → oddN x := fun x hx => by
    obtain ⟨i, hi, rfl⟩ := List.mem_map.mp hx
    exact oi i (hb i hi)
  unfold p_law_odd_fieldX
  refine wSeq_k ?_
  intro N1 hN1
  walk_at "dl"
  refine call_take (bd_le0 (n := 5) (by decide) (by decide)) fun k k0 k1 => ?_
  try walk_at "dl"
  refine hN1 _ ?_
  clear hN1
  refine wSeq_k ?_
  intro N2 hN2
  walk_at "dl"
  intro q
  refine hN2 _ ?_
  clear hN2
  refine wSeq_k ?_
  intro N3 hN3
  refine wIf_k ?_
  intro A3 B3 hA3 hB3
  walk_at "dl"
  by_cases c0 : k = 0
  · rw [if_pos c0]
    refine hA3 _ ?_
    refine wSeq_i ?_
    unfold wRet
    unfold wIx
    unfold wOp
    unfold wLst
    simp only [wCons, wC, wNil, wTup, wDicC, wCall, wVar, datas, List.map_cons, List.map_nil, dat_sh, dat_ow, List.set_cons_succ, List.set_cons_zero, List.getElem?_cons_succ, List.getElem?_cons_zero, roIx, bodyEnds]
    intro p1 p2
    refine call_take (bd_le0 (n := 5) (by decide) (by decide)) fun j j0 j1 => ?_
    obtain ⟨x, hx, e⟩ := atD_in (l := [D.non, D.int 7, D.str "0100", D.bl true, D.tup [D.int 2, D.lst [D.int 0, D.int 1, D.int 1, D.int 0]], D.dic [Sum.inl 0] [D.int 0]]) (i := j) j0 (by simp only [List.length_cons, List.length_nil]; omega)
    refine ⟨x, e, bodyR (hq _ ?_)⟩
    simp only [List.mem_cons, List.not_mem_nil, or_false] at hx
    rcases hx with rfl | rfl | rfl | rfl | rfl | rfl
    · exact ⟨rfl, .inr rfl, fun q hq => by rcases hq with hq | hq <;> cases hq⟩
    · exact ⟨rfl, .inr rfl, fun q hq => by rcases hq with hq | hq <;> cases hq⟩
    · exact ⟨by decide +kernel, .inr rfl, fun q hq => by rcases hq with hq | hq <;> cases hq⟩
    · exact ⟨rfl, .inr rfl, fun q hq => by rcases hq with hq | hq <;> cases hq⟩
    · exact ⟨rfl, .inl (by decide +kernel), fun q hq => by
        rcases hq with hq | hq
        · cases hq
        · injection hq with hq
          match q, hq with
          | [a, b], hq =>
            injection hq with h1 h2
            injection h2 with h2 h3
            cases h2⟩
    · exact ⟨by decide +kernel, .inr rfl, fun q hq => by rcases hq with hq | hq <;> cases hq⟩
  rw [if_neg c0]
  refine hB3 _ ?_
  try walk_at "dl"
  refine hN3 _ ?_
  clear hN3
  clear hA3
  refine wSeq_k ?_
  intro N4 hN4
  have rest : ∀ (l : List D) (q : Addr) (s4 s5 : Sl), l.length ≤ 200 → (∀ x ∈ l, oddN x) → N4 [.sh .sto, .sh (.lst (iD r)), .sh (.int k), .ow q l, s4, s5, .un] := by
    intro l q s4 s5 hl ho
    refine hN4 _ ?_
    clear hN4
    have fin : ∀ (l : List D) (q : Addr) (s6 : Sl) (N5 : DS), N5 = (wSeq (wRet (wCall W_law_as_row (wCons (wVar 0) (wCons (wVar 3) wNil)))) wNext) → l.length ≤ 200 → (∀ x ∈ l, oddN x) → N5 (bodyEnds Q) [.sh .sto, .sh (.lst (iD r)), .sh (.int k), .ow q l, s4, s5, s6] (fun e _ => E' e) := by
      rintro l q s6 N5 rfl hl ho
      have em : l.map asT = l := by
        refine (List.map_congr_left (g := id) fun x hx => ?_).trans (List.map_id l)
        exact (ho x hx).2.1
      have ep : (decide (l.length ≤ 1000) && l.all (plD 2)) = true := by
        rw [decide_eq_true (by omega), Bool.true_and]
        exact List.all_eq_true.mpr fun x hx => (ho x hx).1
      have eb : ∀ q : List Int, l = iD q → ∀ i ∈ q, Bd 300 i := fun q e i hi => (ho (.int i) (by rw [e]; exact List.mem_map.mpr ⟨i, hi, rfl⟩)).2.2.2 i rfl
      refine wSeq_i ?_
      walk_at "dl"
      refine ⟨l, rfl, bodyR (hq _ ⟨ep, .inr (by rw [asT_lst, em]), fun q h => by
        rcases h with h | h
        · injection h with h
          exact eb q h
        · cases h⟩), bodyR (hq _ ⟨ep, ?_, fun q h => by
        rcases h with h | h
        · cases h
        · injection h with h
          exact eb q h⟩)⟩
      cases hm : isM (.tup l) with
      | true => exact .inl rfl
      | false => exact .inr (by rw [asT_tup hm, em])
    refine wSeq_k ?_
    intro N5 hN5
    refine wIf_k ?_
    intro A5 B5 hA5 hB5
    try walk_at "dl"
    by_cases c1 : 1 < k
    · rw [if_pos c1]
      by_cases cl : 0 < l.length
      · rw [if_pos (by omega)]
        refine hA5 _ ?_
        clear hA5 hB5
        refine wSeq_i ?_
        try walk_at "dl"
        refine call_take (bd_le0 (n := 5) (by decide) (by decide)) fun m m0 m1 => ?_
        try walk_at "dl"
        refine ⟨by omega, ?_⟩
        obtain ⟨m, rfl⟩ := Int.eq_ofNat_of_zero_le m0
        have em : (1 + ((m : Nat) : Int)).toNat = 1 + m := by omega
        rw [em]
        refine forD_rng (n := 1 + m) (fun _ ρ => ∃ l q s6, l.length ≤ 200 ∧ 0 < l.length ∧ (∀ x ∈ l, oddN x) ∧ ρ = [.sh .sto, .sh (.lst (iD r)), .sh (.int k), .ow q l, s4, s5, s6]) ?_ ?_ ⟨l, q, _, hl, cl, ho, rfl⟩
        · rintro ρ ⟨l, q, s6, h1, _, h2, rfl⟩
          refine hN5 _ ?_
          clear hN5
          exact fin l q s6 _ rfl h1 h2
        · rintro i ρ hi ⟨l, q, s6, h1, h0, h2, rfl⟩ K hK
          simp only [dgName]
          try walk_at "dl"
          refine ⟨rfl, fun d hd => ?_⟩
          try walk_at "dl"
          refine call_near (by omega) (bd_le0 (n := 1) (by decide) (by decide)) (bd_mono (n := 8) (by show (((l.length : Nat) : Int) - 1).natAbs < 2 ^ 8; omega) (by omega)) fun j j0 j1 => ?_
          try walk_at "dl"
          refine ⟨j.toNat, ix_in (by omega) (by omega), hK _ ⟨_, _, _, by rw [List.length_set]; exact h1, by rw [List.length_set]; exact h0, fun x hx => ?_, rfl⟩⟩
          rcases List.mem_or_eq_of_mem_set hx with hx | rfl
          · exact h2 x hx
          · exact hd
      · rw [if_neg (by omega)]
        refine hB5 _ ?_
        clear hA5 hB5
        try walk_at "dl"
        refine hN5 _ ?_
        clear hN5
        exact fin l q _ _ rfl hl ho
    · rw [if_neg c1]
      refine hB5 _ ?_
      clear hA5 hB5
      try walk_at "dl"
      refine hN5 _ ?_
      clear hN5
      exact fin l q _ _ rfl hl ho
  refine wIf_k ?_
  intro A6 B6 hA6 hB6
  try walk_at "dl"
  by_cases c3 : k < 3
  · rw [if_pos c3]
    refine hA6 _ ?_
    clear hA6 hB6
    refine wSeq_k ?_
    intro N7 hN7
    walk_at "dl"
    refine call_take (bd_mono (n := 7) (by show ((iD r).length : Int).natAbs < 2 ^ 7; rw [iD_len, hr]; omega) (by omega)) fun j j0 j1 => ?_
    try walk_at "dl"
    rw [iD_len, hr] at j1
    refine ⟨_, atD_iD j0 (by rw [hr]; omega), ?_⟩
    refine hN7 _ ?_
    clear hN7
    refine wSeq_k ?_
    intro N8 hN8
    refine wSet_k ?_
    intro S8 hS8
    refine wOp_k ?_
    intro O8 hO8
    try walk_at "dl"
    intro p1
    refine hO8 _ _ ?_
    try walk_at "dl"
    refine call_take (bd_le0 (n := 5) (by decide) (by decide)) fun m m0 m1 => ?_
    try walk_at "dl"
    rw [iD_len, hr]
    obtain ⟨x, hx, e⟩ := atD_in (l := [D.int 0, .int (((2 ^ w : Nat) : Int) - 1), .int (((2 ^ w : Nat) : Int) + 1), .int 3, .int 12, .int 65, .int 96, .int 128]) (i := m) m0 (by simp only [List.length_cons, List.length_nil]; omega)
    have hz : ∃ z : Int, x = .int z ∧ 0 ≤ z ∧ z ≤ 128 := by
      simp only [List.mem_cons, List.not_mem_nil, or_false] at hx
      rcases hx with rfl | rfl | rfl | rfl | rfl | rfl | rfl | rfl <;> exact ⟨_, rfl, by omega, by omega⟩
    obtain ⟨z, rfl, z0, z1⟩ := hz
    refine ⟨_, e, hS8 _ _ ?_⟩
    try walk_at "dl"
    refine hN8 _ ?_
    clear hN8
    refine wSeq_k ?_
    intro N9 hN9
    walk_at "dl"
    refine ⟨by decide, lc_rowN (n := 128) (fun _ => .int (r.getD j.toNat 0)) (by decide) rfl (fun x hx Q0 E0 q0 => ?_) fun p2 => ⟨?_, fun p3 p4 => ?_⟩⟩
    · try walk_at "dl"
      exact q0
    · rw [iD_len, hr, List.length_map, List.length_range, sizeLine_eq]; omega
    · try walk_at "dl"
      refine hN9 _ ?_
      clear hN9
      try walk_at "dl"
      refine rest _ _ _ _ ?_ fun x hx => ?_
      · unfold DL.cutD
        rw [List.length_take, List.length_drop, List.length_append, iD_len, hr, List.length_map, List.length_range]
        omega
      · have hx := List.mem_of_mem_drop (List.mem_of_mem_take hx)
        rcases List.mem_append.mp hx with hx | hx
        · exact ob x hx
        · obtain ⟨i, _, rfl⟩ := List.mem_map.mp hx
          refine oi _ (hb _ ?_)
          have hl : j.toNat < r.length := by omega
          rw [List.getD_eq_getElem?_getD, List.getElem?_eq_getElem hl]
          exact List.getElem_mem hl
  · rw [if_neg c3]
    refine hB6 _ ?_
    clear hA6 hB6
    try walk_at "dl"
    exact rest _ _ _ _ (by rw [iD_len, hr]; omega) ob
end C
set_option Elab.async false
set_option maxRecDepth 100000
set_option maxHeartbeats 1000000
set_option linter.unusedVariables false
namespace C
open PySem PySem.Spec PyProof.Rows L2 NdefX DL
local macro_rules | `(tactic| walk_at "dl") => `(tactic| simp only [wSeq, wLc, wTrue, wRaise0, wRaiseL, wSplit, wJoin, wFs, wSlS1, wSlS2, wAug, wItemsC, wEnum, pStr, fStr, pIntS, fIntS, roInS, orF, NoExc, dgTwo, wItemsT, wSlS0, wIsdig, roMulS, roInL, wIndexS, wSum, pSum, fSum, lk_wide, lk_held, okT_T, wFld, wGet, wMeth, wOwn2, wOwnI, wOwn1, wOwnLen, wOwnStr, wRevT, wZip, wItemsLT, wTupD, wLstD, wMv, isOwn, insOf, iStm, iFld, iEnd, pSumT, fSumT, wNever, tb, eq_self, exists_eq_left', Option.some.injEq, lackN, wTruth, wMinL, roMinL, wEnum, wSlTo, wSlFrom, wPopAt, wLenO, wApp, fillD, List.getD_cons_zero, List.getD_cons_succ, dgPt, ptD, ptsD, wRng3, wUnp, wLcP, outs, ptIx, ptsIx, stillS_un, stillS_sh, backs, ends, wListR, wCountO, wFrz,  wIf, wNext, wBreak, wCont, wRet, wRetN, wDrop, wSet, wTest, wAndB, wOrB, wNotB, wIsi, wVar, wC, wOp, wRaise, wCall, wCons, wNil, wFun, wPar, wTup, wNeg, wUn, wIfE, wAndV, wOrV, wNotV, wUnp2, wLst, wIxO, wLenO, wSetIx, wAppend, wDic0, wFor, wItemsL, wItemsS, wRng1, wRng2, wListRev, dgName, roAdd, roI, roI0, roB, roIx, roIsN, roF, roL, datas, List.map_cons, List.map_nil, entry, List.length_cons, List.length_nil, List.cons_append, List.nil_append, List.replicate, List.replicate_succ, List.replicate_zero, Nat.reduceAdd, Nat.reduceSub, Nat.zero_add,
  List.getElem?_cons_zero, List.getElem?_cons_succ, List.set_cons_zero, List.set_cons_succ, dat_sh, dat_ow, dat_dp, DL.isInt, DL.isBool, DL.isStr, DL.isLst, DL.isTup, PinD, Bool.not_true, Bool.not_false, Bool.false_eq_true, if_true, if_false, true_and, and_true, OkAD, bodyEnds, pInt1, pInt2, fAbs, fMin, fMax, pIntOf, fIntOf, pLen, fLen, pSeq, fSeq, reduceIte, decide_eq_true_eq, ite_true, ite_false, Bool.and_eq_true, Bool.not_eq_true', roEq_int, Bool.true_xor, Bool.false_xor, Bool.true_eq_false])
end C
set_option Elab.async false
set_option maxRecDepth 100000
set_option maxHeartbeats 1000000
set_option linter.unusedVariables false
namespace C
open PySem PySem.Spec PyProof.Rows L2 NdefX DL
local macro_rules | `(tactic| walk_at "dl") => `(tactic| simp only [wSeq, wMaxD, wMinD, roMaxD, roMinD, wLcO, wAppIx,  roAny,  wSpoilX, wSpoilEX, wSpoilVI, wSpoilEI, isDic, wDicC, wTupO, wLendID,  wCountF, wIndexF, wMvIxL,  wLc, wTrue, wRaise0, wRaiseL, wSplit, wJoin, wFs, wSlS1, wSlS2, wAug, wItemsC, wEnum, pStr, fStr, pIntS, fIntS, roInS, orF, NoExc, dgTwo, wItemsT, wSlS0, wIsdig, roMulS, roInL, wIndexS, wSum, pSum, fSum, lk_wide, lk_held, okT_T, wFld, wGet, wMeth, wOwn2, wOwnI, wOwn1, wOwnLen, wOwnStr, wRevT, wZip, wItemsLT, wTupD, wLstD, wMv, isOwn, insOf, iStm, iFld, iEnd, pSumT, fSumT, wNever, tb, eq_self, exists_eq_left', Option.some.injEq, lackN, wTruth, wMinL, roMinL, wEnum, wSlTo, wSlFrom, wPopAt, wLenO, wApp, fillD, List.getD_cons_zero, List.getD_cons_succ, dgPt, ptD, ptsD, wRng3, wUnp, wLcP, outs, ptIx, ptsIx, stillS_un, stillS_sh, backs, ends, wListR, wCountO, wFrz,  wIf, wNext, wBreak, wCont, wRet, wRetN, wDrop, wSet, wTest, wAndB, wOrB, wNotB, wIsi, wVar, wC, wOp, wRaise, wCall, wCons, wNil, wFun, wPar, wTup, wNeg, wUn, wIfE, wAndV, wOrV, wNotV, wUnp2, wLst, wIxO, wLenO, wSetIx, wAppend, wDic0, wFor, wItemsL, wItemsS, wRng1, wRng2, wListRev, dgName, roAdd, roI, roI0, roB, roIx, roIsN, roF, roL, datas, List.map_cons, List.map_nil, entry, List.length_cons, List.length_nil, List.cons_append, List.nil_append, List.replicate, List.replicate_succ, List.replicate_zero, Nat.reduceAdd, Nat.reduceSub, Nat.zero_add,
  List.getElem?_cons_zero, List.getElem?_cons_succ, List.set_cons_zero, List.set_cons_succ, dat_sh, dat_ow, dat_dp, DL.isInt, DL.isBool, DL.isStr, DL.isLst, DL.isTup, PinD, Bool.not_true, Bool.not_false, Bool.false_eq_true, if_true, if_false, true_and, and_true, OkAD, bodyEnds, pInt1, pInt2, fAbs, fMin, fMax, pIntOf, fIntOf, pLen, fLen, pSeq, fSeq, reduceIte, decide_eq_true_eq, ite_true, ite_false, Bool.and_eq_true, Bool.not_eq_true', roEq_int, Bool.true_xor, Bool.false_xor, Bool.true_eq_false])
theorem row_items {n : Nat} : ∀ {l : List D}, (∀ x ∈ l, plD n x = true) → ∃ r, itemsK (fitK "field") l = some r
  | [], _ => ⟨_, rfl⟩
  | d :: l, h => by
    obtain ⟨b, hb⟩ := plD_isJ (h d List.mem_cons_self)
    have hj : isJ d = some b := by
      cases d with
      | ins c f ds => cases hb
      | _ => exact hb
    simp only [itemsK, fitK, hj]
    cases b with
    | true => exact row_items fun x hx => h x (List.mem_cons_of_mem _ hx)
    | false => exact ⟨_, rfl⟩
theorem field_some {x : D} (h : GivX x) : ∃ r, f_field "field" (asT x) = some r := by
  obtain ⟨h1, h2, _⟩ := h
  rcases h2 with c | e
  · obtain ⟨w, l, rfl, hT⟩ := isM_mdl c
    rw [asT_mdl hT]
    exact ⟨_, rfl⟩
  · rw [e]
    have go : ∀ l : List D, (∀ x ∈ l, plD 2 x = true) → ∃ r, f_fieldL "field" l = some r := fun l hl => by
      unfold f_fieldL
      by_cases c : l.length ∈ ([1, 2, 4, 8, 16, 32, 64] : List Nat)
      · rw [if_pos c]; exact row_items hl
      · rw [if_neg c]; exact ⟨_, rfl⟩
    cases x with
    | lst l => exact go l (plD_lst h1).2
    | tup l => exact go l (plD_tup h1).2
    | _ => first | exact ⟨_, rfl⟩ | cases h1
theorem asT_iD (r : List Int) : (iD r).map asT = iD r := by
  unfold iD
  rw [List.map_map]
  exact List.map_congr_left fun x _ => by show asT (.int x) = _; unfold asT; rfl
theorem isM_iD (r : List Int) : isM (.tup (iD r)) = false := by
  match r with
  | [] => rfl
  | [a] => exact isM_len (by rw [iD_len]; simp)
  | a :: b :: c :: r => exact isM_len (by unfold iD; simp)
  | [a, b] => exact isM_two fun ⟨_, _, e⟩ => by cases e
theorem asT_row {d : D} {r : List Int} (h : rowI d r) : asT d = d := by
  rcases h with rfl | rfl
  · rw [asT_lst, asT_iD]
  · rw [asT_tup (isM_iD r), asT_iD]
theorem field_err {d : D} {e : Er} (h : f_field "field" d = some (.error e)) : e = Er1 "WrongKind" "field" ∨ e = Er1 "WrongSize" "field" := by
  rcases field_cases h with ⟨l, _, _, _, hl⟩ | ⟨_, _, _, _, _, z⟩
  · rcases fieldL_cases hl with ⟨_, h2⟩ | ⟨_, z⟩
    · exact .inl (fitems_err h2)
    · injection z with z; exact .inr z
  · injection z with z; exact .inl z
theorem plD_iD {n : Nat} {l : List Int} (h : l.length ≤ 1000) : plD (n + 2) (.tup (iD l)) = true ∧ plD (n + 2) (.lst (iD l)) = true := by
  have e : (decide ((iD l).length ≤ 1000) && (iD l).all (plD (n + 1))) = true := by
    rw [decide_eq_true (by rw [iD_len]; exact h), Bool.true_and]
    exact List.all_eq_true.mpr fun x hx => by
      obtain ⟨i, _, rfl⟩ := List.mem_map.mp hx
      rfl
  exact ⟨e, e⟩
theorem rowQ_of {x : D} {v : D} (hx : GivX x) (h : f_field "field" (asT x) = some (.ok v)) : ∃ w r, rowI x r ∧ r.length = 2 ^ w ∧ w ≤ 6 ∧ ∀ i ∈ r, Bd 5000 i := by
  have go : ∀ l : List D, (x = .lst l ∨ x = .tup l) → f_fieldL "field" l = some (.ok v) → ∃ w r, rowI x r ∧ r.length = 2 ^ w ∧ w ≤ 6 ∧ ∀ i ∈ r, Bd 5000 i := fun l e hl => by
    rcases fieldL_cases hl with ⟨h1, h2⟩ | ⟨_, z⟩
    · obtain ⟨_, r, rfl⟩ := fitems_ok h2
      obtain ⟨w, hw, el⟩ := lens_pow h1
      rw [iD_len] at el
      exact ⟨w, r, e, el, hw, fun i hi => bd_mono (hx.2.2 r e i hi) (by decide)⟩
    · cases z
  rcases hx.2.1 with c | e
  · obtain ⟨w, l, rfl, hT⟩ := isM_mdl c
    rw [asT_mdl hT] at h
    cases h
  · rw [e] at h
    cases x with
    | lst l => exact go l (.inl rfl) h
    | tup l => exact go l (.inr rfl) h
    | _ => first | cases h | (obtain ⟨h1, _⟩ := hx; cases h1)
theorem giv_list {l : List Int} (hl : l.length ≤ 64) (hb : ∀ x ∈ l, Bd 300 x) : GivX (.lst (iD l)) ∧ GivX (.tup (iD l)) := by
  have h1 := plD_iD (n := 1) (l := l) (by omega)
  have inj : ∀ q : List Int, iD q = iD l → q = l := fun q h => by
    have := congrArg (List.map intOf) h
    unfold iD at this
    rw [List.map_map, List.map_map] at this
    have e : ∀ z : List Int, z.map (intOf ∘ D.int) = z := fun z => (List.map_congr_left (g := id) fun x _ => rfl).trans (List.map_id z)
    rw [e, e] at this
    exact this
  refine ⟨⟨h1.2, .inr (asT_row (.inl rfl)), fun q hq => ?_⟩, ⟨h1.1, .inr (asT_row (.inr rfl)), fun q hq => ?_⟩⟩
  · rcases hq with hq | hq
    · injection hq with hq; rw [inj q hq.symm]; exact hb
    · cases hq
  · rcases hq with hq | hq
    · cases hq
    · injection hq with hq; rw [inj q hq.symm]; exact hb
theorem plD_mdl {n w : Nat} {l : List Nat} (h : TB w l) : plD (n + 3) (mdl w l) = true := by
  have h64 := h.le
  show (true && (plD (n + 2) (.int (w : Nat)) && (plD (n + 2) (.lst (nD l)) && true))) = true
  rw [(plD_nD (n := n) (by omega)).2]; rfl
theorem rowI_mdl {w : Nat} {l : List Nat} {q : List Int} (h : rowI (mdl w l) q) : False := by
  rcases h with h | h
  · cases h
  · injection h with h
    match q, h with
    | [a, b], h =>
      injection h with h1 h2
      injection h2 with h2 h3
      cases h2
theorem giv_mdl {w : Nat} {l : List Nat} (h : TB w l) : GivX (mdl w l) := ⟨plD_mdl h, .inl (isM_of h), fun q hq => (rowI_mdl hq).elim⟩
theorem iD_inj {q l : List Int} (h : iD q = iD l) : q = l := by
  have := congrArg (List.map intOf) h
  unfold iD at this
  rw [List.map_map, List.map_map] at this
  have e : ∀ z : List Int, z.map (intOf ∘ D.int) = z := fun z => (List.map_congr_left (g := id) fun x _ => rfl).trans (List.map_id z)
  rw [e, e] at this
  exact this
theorem isT_asT {d : D} (h : GivX d) (hm : isM d = false) : isT (asT d) = some false := by
  have e : asT d = d := h.2.1.resolve_left (by rw [hm]; decide)
  rw [e]
  have h1 := h.1
  cases d <;> first | rfl | cases h1
theorem bad_leaf {d : D} (h1 : plD 3 d = true) (h2 : ∀ l, d ≠ .tup l) (h3 : asT d = d) (h4 : ∀ l, d ≠ .lst l) : BadX d := ⟨⟨h1, .inr h3, fun q hq => hq.elim (fun e => absurd e (h4 _)) fun e => absurd e (h2 _)⟩, noM_leaf h2⟩
theorem nD_iD (l : List Nat) : nD l = iD (l.map fun (n : Nat) => (n : Int)) := by unfold nD iD; rw [List.map_map]; rfl
theorem bad_rows {w : Nat} {l : List Nat} (h : TB w l) : BadX (.lst (nD l)) ∧ BadX (.tup (nD l)) := by
  have h64 := h.le
  have g := giv_list (l := l.map fun (n : Nat) => (n : Int)) (by rw [List.length_map]; omega) fun x hx => by
    obtain ⟨n, hn, rfl⟩ := List.mem_map.mp hx
    have := h.bit n hn
    show ((n : Nat) : Int).natAbs < 2 ^ 300
    exact Nat.lt_of_lt_of_le (show ((n : Nat) : Int).natAbs < 2 ^ 1 by omega) (Nat.pow_le_pow_right (by decide) (by decide))
  rw [nD_iD]
  exact ⟨⟨g.1, rfl⟩, g.2, isM_iD _⟩
theorem giv_sg {w : Nat} {l : List Nat} (h : TB w l) : (∀ x ∈ sgI l, Bd 300 x) ∧ (sgI l).length = 2 ^ w := ⟨fun x hx => by
  obtain ⟨n, hn, rfl⟩ := List.mem_map.mp hx
  have := h.bit n hn
  show (1 - 2 * ((n : Nat) : Int)).natAbs < 2 ^ 300
  exact Nat.lt_of_lt_of_le (show (1 - 2 * ((n : Nat) : Int)).natAbs < 2 ^ 1 by omega) (Nat.pow_le_pow_right (by decide) (by decide)), by rw [sgI_len, h.len]⟩
end C
set_option Elab.async false
set_option maxRecDepth 100000
set_option maxHeartbeats 1000000
set_option linter.unusedVariables false
namespace C
open PySem PySem.Spec PyProof.Rows L2 NdefX DL
local macro_rules | `(tactic| walk_at "dl") => `(tactic| simp only [wSeq, wMaxD, wMinD, roMaxD, roMinD, wLcO, wAppIx,  roAny,  wSpoilX, wSpoilEX, wSpoilVI, wSpoilEI, isDic, wDicC, wTupO, wLendID,  wCountF, wIndexF, wMvIxL,  wLc, wTrue, wRaise0, wRaiseL, wSplit, wJoin, wFs, wSlS1, wSlS2, wAug, wItemsC, wEnum, pStr, fStr, pIntS, fIntS, roInS, orF, NoExc, dgTwo, wItemsT, wSlS0, wIsdig, roMulS, roInL, wIndexS, wSum, pSum, fSum, lk_wide, lk_held, okT_T, wFld, wGet, wMeth, wOwn2, wOwnI, wOwn1, wOwnLen, wOwnStr, wRevT, wZip, wItemsLT, wTupD, wLstD, wMv, isOwn, insOf, iStm, iFld, iEnd, pSumT, fSumT, wNever, tb, eq_self, exists_eq_left', Option.some.injEq, lackN, wTruth, wMinL, roMinL, wEnum, wSlTo, wSlFrom, wPopAt, wLenO, wApp, fillD, List.getD_cons_zero, List.getD_cons_succ, dgPt, ptD, ptsD, wRng3, wUnp, wLcP, outs, ptIx, ptsIx, stillS_un, stillS_sh, backs, ends, wListR, wCountO, wFrz,  wIf, wNext, wBreak, wCont, wRet, wRetN, wDrop, wSet, wTest, wAndB, wOrB, wNotB, wIsi, wVar, wC, wOp, wRaise, wCall, wCons, wNil, wFun, wPar, wTup, wNeg, wUn, wIfE, wAndV, wOrV, wNotV, wUnp2, wLst, wIxO, wLenO, wSetIx, wAppend, wDic0, wFor, wItemsL, wItemsS, wRng1, wRng2, wListRev, dgName, roAdd, roI, roI0, roB, roIx, roIsN, roF, roL, datas, List.map_cons, List.map_nil, entry, List.length_cons, List.length_nil, List.cons_append, List.nil_append, List.replicate, List.replicate_succ, List.replicate_zero, Nat.reduceAdd, Nat.reduceSub, Nat.zero_add,
  List.getElem?_cons_zero, List.getElem?_cons_succ, List.set_cons_zero, List.set_cons_succ, dat_sh, dat_ow, dat_dp, DL.isInt, DL.isBool, DL.isStr, DL.isLst, DL.isTup, PinD, Bool.not_true, Bool.not_false, Bool.false_eq_true, if_true, if_false, true_and, and_true, OkAD, bodyEnds, pInt1, pInt2, fAbs, fMin, fMax, pIntOf, fIntOf, pLen, fLen, pSeq, fSeq, reduceIte, decide_eq_true_eq, ite_true, ite_false, Bool.and_eq_true, Bool.not_eq_true', roEq_int, Bool.true_xor, Bool.false_xor, Bool.true_eq_false])
theorem call_spsN {w : Nat} {Q : Sl → Prop} {E : Er → Prop} (hw : w ≤ 6) (q : Q (.sh (.lst (iD (spsL w))))) : W_parity_signs [.int w] Q E := ⟨w, rfl, hw, q⟩
theorem sps_bd {w : Nat} (hw : w ≤ 6) : (spsL w).length ≤ 64 := by
  rw [sps_len]; exact Nat.pow_le_pow_right (n := 2) (by decide) hw
theorem sat_parity_signs : ∀ ds Q E', W_parity_signs ds Q E' → p_parity_signs (bodyEnds Q) (entry 4 ds) (fun e _ => E' e) := by
  rintro ds Q E' ⟨w, rfl, w6, hq⟩
  unfold p_parity_signs
  refine wSeq_k ?_
  intro N1 hN1
  walk_at "dl"
  intro p
  refine hN1 _ ?_
  clear hN1
  refine wSeq_k ?_
  intro N2 hN2
  walk_at "dl"
  refine ⟨by omega, ?_⟩
  rw [Int.toNat_natCast]
  refine forD_rng (n := w) (fun k ρ => ∃ s2 p, ρ = [.sh (.int w), .ow p (iD (spsL k)), s2, .un]) ?_ ?_ ⟨_, p, rfl⟩
  · rintro ρ ⟨s2, p, rfl⟩
    refine hN2 _ ?_
    clear hN2
    refine wSeq_i ?_
    walk_at "dl"
    exact bodyR hq
  · rintro k ρ hk ⟨s2, p, rfl⟩ K hK
    simp only [dgName]
    have hb := sps_bd (w := k) (by omega)
    try walk_at "dl"
    have em : iD (spsL k) = (spsL k).map fun (x : Int) => D.int x := rfl
    rw [em]
    refine lcD_all (fun (x : Int) => D.int x) (fun (x : Int) => D.int (-x)) (spsL k) (fun x hx Q0 E0 q0 => ?_) rfl (by omega) fun p5 => ⟨by rw [List.length_map, List.length_map, sizeLine_eq]; omega, fun p6 => ?_⟩
    · walk_at "dl"
      exact q0
    · have er : (spsL k).map (fun (x : Int) => D.int x) ++ (spsL k).map (fun x => D.int (-x)) = iD (spsL (k + 1)) := by
        rw [← sps_step (by omega)]
        unfold iD; rw [List.map_append, List.map_map]; rfl
      rw [er]
      exact hK _ ⟨_, _, rfl⟩
theorem sat_summed : ∀ ds Q E', W_summed ds Q E' → p_summed (bodyEnds Q) (entry 4 ds) (fun e _ => E' e) := by
  rintro ds Q E' ⟨w, l, s, rfl, hT, hs, hq⟩
  have p64 := hT.pow
  have w6 := hT.w6
  have sl : (sgD l).length = 2 ^ w := by rw [sgD_iD, iD_len, sgI_len, hT.len]
  rw [sgD_iD] at sl
  rw [sgD_iD]
  unfold p_summed
  refine wSeq_i ?_
  walk_at "dl"
  rw [sl, Int.toNat_natCast]
  refine ⟨⟨by omega, by omega⟩, ?_⟩
  refine lc_rowN (fun x => .int (fI l x * chi w x s)) (by omega) rfl (fun x hx Q0 E0 q0 => ?_) fun p => ?_
  · have hand : x &&& s ≤ x := Nat.and_le_left
    try walk_at "dl"
    refine ⟨_, atD_iD (by omega) (by rw [sgI_len, hT.len]; omega), ?_⟩
    rw [band_n]
    refine ⟨_, atD_iD (Int.natCast_nonneg _) (by rw [sps_len]; omega), ?_⟩
    rw [Int.toNat_natCast, Int.toNat_natCast, sgI_get (by rw [hT.len]; exact hx), sps_get w6 hx]
    have c1 := hT.at hx
    rcases chi_pm w x s with h | h
    · refine ⟨cm_l ⟨?_, ?_⟩, q0⟩ <;> (unfold fI; omega)
    · refine ⟨cm_l ⟨?_, ?_⟩, q0⟩ <;> (unfold fI; omega)
  · have er : (List.range (2 ^ w)).map (fun x => D.int (fI l x * chi w x s)) = iD ((List.range (2 ^ w)).map fun x => fI l x * chi w x s) := by unfold iD; rw [List.map_map]; rfl
    rw [er]
    refine ⟨⟨_, rfl⟩, ?_⟩
    rw [sum_iD, sumI_list]
    have e : sumI (2 ^ w) (fun x => fI l x * chi w x s) = sc w l s := sumI_congr fun x _ => by rw [chi_comm w x s, Int.mul_comm]
    rw [e]
    exact bodyR hq
theorem sat_scoresO : ∀ ds Q E', W_scoresO ds Q E' → p_scoresO (bodyEnds Q) (entry 1 ds) (fun e _ => E' e) := by
  rintro ds Q E' ⟨d, r, rfl, hv, h1, h2⟩
  unfold p_scoresO
  refine wSeq_k ?_
  intro N1 hN1
  walk_at "dl"
  cases hv with
  | bad hd => exact call_chkT tbl_len (by rw [hd]; rfl) (fun e => by rw [hd] at e; cases e) (fun _ => h2 _ rfl)
  | @good w l hT =>
    refine call_chkT tbl_len rfl (fun _ => hN1 _ ?_) isT_no
    refine wSeq_i ?_
    walk_at "dl"
    refine ⟨by decide +kernel, w, l, rfl, hT, fun p => ?_⟩
    try walk_at "dl"
    rw [sgD_iD]
    exact ⟨w, _, sgI l, rfl, .inl rfl, by rw [sgI_len, hT.len], hT.w6, fun q => ⟨_, .refl _, h1 _ rfl q⟩⟩
theorem bit_TB {w : Nat} (hw : w ≤ 6) (f : Nat → Nat) (hf : ∀ x, f x ≤ 1) : TB w ((List.range (2 ^ w)).map f) := ⟨hw, by rw [List.length_map, List.length_range], fun b hb => by
  obtain ⟨x, _, rfl⟩ := List.mem_map.mp hb
  exact hf x⟩
theorem xor_b {a b : Nat} (ha : a < 2) (hb : b < 2) : a ^^^ b ≤ 1 := by
  rcases (by omega : a = 0 ∨ a = 1) with rfl | rfl <;> rcases (by omega : b = 0 ∨ b = 1) with rfl | rfl <;> decide
theorem mask_n (T w : Nat) : Builtin.bitAnd (((T : Nat) : Int) / 2 ^ ((w : Nat) : Int).toNat) (((2 ^ w : Nat) : Int) - 1) = ((T / 2 ^ w % 2 ^ w : Nat) : Int) := by
  have pp := Nat.two_pow_pos w
  have e1 : ((T : Nat) : Int) / 2 ^ ((w : Nat) : Int).toNat = ((T / 2 ^ w : Nat) : Int) := by rw [Int.toNat_natCast, ← pow_i]; exact (Int.natCast_ediv _ _).symm
  have e2 : ((2 ^ w : Nat) : Int) - 1 = ((2 ^ w - 1 : Nat) : Int) := by omega
  rw [e1, e2, band_n, Nat.and_two_pow_sub_one_eq_mod]
theorem sat_law_some_bits : ∀ ds Q E', W_law_some_bits ds Q E' → p_law_some_bits (bodyEnds Q) (entry 7 ds) (fun e _ => E' e) := by
  rintro ds Q E' ⟨w, rfl, w6, hq⟩
  have p64 : 2 ^ w ≤ 64 := Nat.pow_le_pow_right (n := 2) (by decide) w6
  have pp := Nat.two_pow_pos w
  have e1 : (1 : Int) * 2 ^ ((w : Nat) : Int).toNat = ((2 ^ w : Nat) : Int) := by rw [Int.toNat_natCast, Int.one_mul, pow_i]
  have e2 : (1 : Int) * 2 ^ (((2 ^ w : Nat) : Nat) : Int).toNat = ((2 ^ 2 ^ w : Nat) : Int) := by rw [Int.toNat_natCast, Int.one_mul, pow_i]
  unfold p_law_some_bits
  refine wSeq_k ?_
  intro N1 hN1
  walk_at "dl"
  rw [e1]
  refine ⟨⟨by omega, by omega, by decide⟩, ?_⟩
  refine hN1 _ ?_
  clear hN1
  refine wSeq_k ?_
  intro N2 hN2
  walk_at "dl"
  refine call_take (bd_le0 (n := 5) (by decide) (by decide)) fun k k0 k1 => ?_
  try walk_at "dl"
  refine hN2 _ ?_
  clear hN2
  refine wSeq_k ?_
  intro N3 hN3
  walk_at "dl"
  rw [e2]
  refine ⟨⟨by omega, by omega, by decide⟩, ?_⟩
  have h64 : 2 ^ 2 ^ w ≤ 2 ^ 64 := Nat.pow_le_pow_right (by decide) p64
  have hp2 := Nat.two_pow_pos (2 ^ w)
  refine call_take (bd_mono (n := 65) (by show ((2 ^ 2 ^ w : Nat) : Int).natAbs < 2 ^ 65; omega) (by omega)) fun t t0 t1 => ?_
  try walk_at "dl"
  refine hN3 _ ?_
  clear hN3
  refine wSeq_k ?_
  intro N4 hN4
  have rest : ∀ T : Nat, N4 [.sh .sto, .sh (.int w), .sh (.int (2 ^ w : Nat)), .sh (.int k), .sh (.int (T : Nat)), .un, .un] := fun T => by
    refine hN4 _ ?_
    clear hN4
    refine wSeq_k ?_
    intro N5 hN5
    walk_at "dl"
    refine ⟨by omega, ?_⟩
    rw [Int.toNat_natCast]
    have bits : ∀ (l : List Nat) (p : Addr), TB w l → N5 [.sh .sto, .sh (.int w), .sh (.int (2 ^ w : Nat)), .sh (.int k), .sh (.int (T : Nat)), .ow p (nD l), .un] := fun l p hl => by
      refine hN5 _ ?_
      clear hN5
      refine wSeq_k ?_
      intro N6 hN6
      have fin : ∀ (l : List Nat) (p : Addr), TB w l → N6 [.sh .sto, .sh (.int w), .sh (.int (2 ^ w : Nat)), .sh (.int k), .sh (.int (T : Nat)), .ow p (nD l), .un] := fun l p hl => by
        refine hN6 _ ?_
        clear hN6
        refine wSeq_k ?_
        intro N7 hN7
        have fin2 : ∀ (l : List Nat) (p : Addr), TB w l → N7 [.sh .sto, .sh (.int w), .sh (.int (2 ^ w : Nat)), .sh (.int k), .sh (.int (T : Nat)), .ow p (nD l), .un] := fun l p hl => by
          refine hN7 _ ?_
          clear hN7
          refine wSeq_i ?_
          walk_at "dl"
          exact ⟨_, .sh _ (fun z => by cases z), hq l hl⟩
        refine wIf_k ?_
        intro A7 B7 hA7 hB7
        try walk_at "dl"
        by_cases c : k = 2
        · rw [if_pos c]
          refine hA7 _ ?_
          refine wSeq_i ?_
          walk_at "dl"
          rw [mask_n T w]
          have hm : T / 2 ^ w % 2 ^ w < 2 ^ w := Nat.mod_lt _ pp
          have hl2 : (nD l).length = 2 ^ w := by unfold nD; rw [List.length_map, hl.len]
          refine ⟨show (0 : Int) ≤ (w : Nat) by omega, T / 2 ^ w % 2 ^ w, ix_in (by omega) (by omega), ?_⟩
          have e5 : (nD l).set (T / 2 ^ w % 2 ^ w) (.int 0) = nD (l.set (T / 2 ^ w % 2 ^ w) 0) := by unfold nD; rw [List.map_set]; rfl
          rw [e5]
          refine fin2 _ _ ⟨w6, by rw [List.length_set, hl.len], fun b hb => ?_⟩
          rcases List.mem_or_eq_of_mem_set hb with hb | rfl
          · exact hl.bit b hb
          · omega
        · rw [if_neg c]
          refine hB7 _ ?_
          try walk_at "dl"
          exact fin2 l p hl
      refine wIf_k ?_
      intro A6 B6 hA6 hB6
      try walk_at "dl"
      by_cases c3 : k < 3
      · rw [if_pos c3]
        by_cases c0 : 0 < k
        · rw [if_pos c0]
          refine hA6 _ ?_
          refine wSeq_i ?_
          walk_at "dl"
          refine ⟨by omega, ?_⟩
          rw [Int.toNat_natCast]
          refine lc_rowN (fun x => .int ((((popN ((T &&& (2 ^ w - 1)) &&& x) % 2) ^^^ (T / 2 ^ w % 2) : Nat)) : Nat)) (by omega) rfl (fun x hx Q0 E0 q0 => ?_) fun q2 => ?_
          · try walk_at "dl"
            have em : Builtin.bitAnd ((T : Nat) : Int) (((2 ^ w : Nat) : Int) - 1) = ((T &&& (2 ^ w - 1) : Nat) : Int) := by
              have : ((2 ^ w : Nat) : Int) - 1 = ((2 ^ w - 1 : Nat) : Int) := by omega
              rw [this, band_n]
            rw [em]
            have h63 : T &&& (2 ^ w - 1) ≤ 2 ^ w - 1 := Nat.and_le_right
            refine call_par (by omega) ?_
            try walk_at "dl"
            refine ⟨show (0 : Int) ≤ (w : Nat) by omega, ?_⟩
            rw [bit_val, bxor_n]
            exact q0
          · have e6 : (List.range (2 ^ w)).map (fun x => D.int ((((popN ((T &&& (2 ^ w - 1)) &&& x) % 2) ^^^ (T / 2 ^ w % 2) : Nat)) : Nat)) = nD ((List.range (2 ^ w)).map fun x => (popN ((T &&& (2 ^ w - 1)) &&& x) % 2) ^^^ (T / 2 ^ w % 2)) := by unfold nD; rw [List.map_map]; rfl
            rw [e6]
            exact fin _ _ (bit_TB w6 _ fun x => xor_b (Nat.mod_lt _ (by decide)) (Nat.mod_lt _ (by decide)))
        · rw [if_neg c0]
          refine hB6 _ ?_
          try walk_at "dl"
          exact fin l p hl
      · rw [if_neg c3]
        refine hB6 _ ?_
        try walk_at "dl"
        exact fin l p hl
    refine lc_rowN (fun x => .int ((T / 2 ^ x % 2 : Nat) : Nat)) (by omega) rfl (fun x hx Q0 E0 q0 => ?_) fun q2 => ?_
    · try walk_at "dl"
      refine ⟨show (0 : Int) ≤ (x : Nat) by omega, ?_⟩
      rw [bit_val]
      exact q0
    · have e6 : (List.range (2 ^ w)).map (fun x => D.int ((T / 2 ^ x % 2 : Nat) : Nat)) = nD ((List.range (2 ^ w)).map fun x => T / 2 ^ x % 2) := by unfold nD; rw [List.map_map]; rfl
      rw [e6]
      exact bits _ _ (bit_TB w6 _ fun x => by have := Nat.mod_lt (T / 2 ^ x) (show 0 < 2 by decide); omega)
  obtain ⟨T, rfl⟩ := Int.eq_ofNat_of_zero_le t0
  refine wIf_k ?_
  intro A4 B4 hA4 hB4
  try walk_at "dl"
  by_cases c : k = 0
  · rw [if_pos c]
    refine hA4 _ ?_
    refine wSeq_i ?_
    walk_at "dl"
    rw [e2]
    have hT2 := Nat.mod_lt T (show 0 < 2 by decide)
    have ea : Builtin.bitAnd ((T : Nat) : Int) 1 = ((T % 2 : Nat) : Int) := by
      have := band_n T 1
      rw [show ((1 : Nat) : Int) = 1 from rfl] at this
      rw [this, Nat.and_one_is_mod]
    refine ⟨⟨by omega, by omega, by decide⟩, fun p3 => ?_⟩
    rw [ea]
    have e0 : ((2 ^ 2 ^ w : Nat) : Int) - 1 = ((2 ^ 2 ^ w - 1 : Nat) : Int) := by omega
    rw [e0]
    rcases (by omega : T % 2 = 0 ∨ T % 2 = 1) with z | z <;> rw [z]
    · exact ⟨_, rfl, rest 0⟩
    · exact ⟨_, rfl, rest _⟩
  · rw [if_neg c]
    refine hB4 _ ?_
    try walk_at "dl"
    exact rest T
theorem sat_law_model : ∀ ds Q E', W_law_model ds Q E' → p_law_model (bodyEnds Q) (entry 3 ds) (fun e _ => E' e) := by
  rintro ds Q E' ⟨m, rfl, m6, hq⟩
  unfold p_law_model
  refine wSeq_k ?_
  intro N1 hN1
  walk_at "dl"
  refine ⟨⟨0, m, rfl, by omega, m6⟩, fun z ⟨lo, hi, v, e, ez, _, h2⟩ => ?_, fun _ z => z.elim⟩
  have e1 : ((m : Nat) : Int) = hi := by injection e with _ e; injection e with e e'; injection e' with e' _; injection e'
  rw [ez]
  try walk_at "dl"
  refine hN1 _ ?_
  clear hN1
  refine wSeq_i ?_
  walk_at "dl"
  refine ⟨v, rfl, by omega, fun l hl => ?_⟩
  try walk_at "dl"
  exact bodyR (hq v l (by omega) hl)
theorem sat_law_odd_tableM : ∀ ds Q E', W_law_odd_tableM ds Q E' → p_law_odd_tableM (bodyEnds Q) (entry 2 ds) (fun e _ => E' e) := by
  rintro ds Q E' ⟨w, l, rfl, hT, hq⟩
  unfold p_law_odd_tableM
  have a0 : ∀ {P : D → Prop}, (∃ x, atD [D.int (w : Nat), .lst (nD l)] 1 = some x ∧ P x) = P (.lst (nD l)) := at1
  refine wSeq_i ?_
  unfold wRet wIx wOp wLst
  simp only [wCons, wC, wNil, wList, wTuple, wPow, wDic0, wVar, wCall, datas, List.map_cons, List.map_nil, dat_sh, dat_ow, List.set_cons_succ, List.set_cons_zero, List.getElem?_cons_succ, List.getElem?_cons_zero, roIx, bodyEnds, mdl, a0]
  try walk_at "dl"
  refine ⟨_, rfl, trivial, fun p1 => ⟨_, rfl, ?_⟩⟩
  refine roTup_mono (fun z ez => ?_) (show (roTup [.lst (nD l)] fun z => z = .sh (.tup (nD l))) from rfl)
  subst ez
  refine ⟨⟨by decide, by decide, by decide⟩, fun p2 => ?_⟩
  refine call_take (m := 8) (bd_le0 (n := 8) (by decide) (by decide)) fun j j0 j1 => ?_
  obtain ⟨x, hx, e⟩ := atD_in (l := [D.non, D.int 1, D.lst (nD l), D.tup (nD l), D.str "1:01", D.bl true, D.int (10 ^ (20 : Int).toNat), D.dic [] []]) (i := j) j0 (by simp only [List.length_cons, List.length_nil]; omega)
  refine ⟨x, e, bodyR (hq _ ?_)⟩
  have hr := bad_rows hT
  simp only [List.mem_cons, List.not_mem_nil, or_false] at hx
  rcases hx with rfl | rfl | rfl | rfl | rfl | rfl | rfl | rfl
  · exact bad_leaf rfl (fun _ z => by cases z) rfl (fun _ z => by cases z)
  · exact bad_leaf rfl (fun _ z => by cases z) rfl (fun _ z => by cases z)
  · exact hr.1
  · exact hr.2
  · exact bad_leaf (by decide +kernel) (fun _ z => by cases z) rfl (fun _ z => by cases z)
  · exact bad_leaf rfl (fun _ z => by cases z) rfl (fun _ z => by cases z)
  · exact bad_leaf rfl (fun _ z => by cases z) rfl (fun _ z => by cases z)
  · exact bad_leaf (by decide +kernel) (fun _ z => by cases z) rfl (fun _ z => by cases z)
end C
set_option Elab.async false
set_option maxRecDepth 100000
set_option maxHeartbeats 1000000
set_option linter.unusedVariables false
namespace C
open PySem PySem.Spec PyProof.Rows L2 NdefX DL
local macro_rules | `(tactic| walk_at "dl") => `(tactic| simp only [wSeq, wMaxD, wMinD, roMaxD, roMinD, wLcO, wAppIx,  roAny,  wSpoilX, wSpoilEX, wSpoilVI, wSpoilEI, isDic, wDicC, wTupO, wLendID,  wCountF, wIndexF, wMvIxL,  wLc, wTrue, wRaise0, wRaiseL, wSplit, wJoin, wFs, wSlS1, wSlS2, wAug, wItemsC, wEnum, pStr, fStr, pIntS, fIntS, roInS, orF, NoExc, dgTwo, wItemsT, wSlS0, wIsdig, roMulS, roInL, wIndexS, wSum, pSum, fSum, lk_wide, lk_held, okT_T, wFld, wGet, wMeth, wOwn2, wOwnI, wOwn1, wOwnLen, wOwnStr, wRevT, wZip, wItemsLT, wTupD, wLstD, wMv, isOwn, insOf, iStm, iFld, iEnd, pSumT, fSumT, wNever, tb, eq_self, exists_eq_left', Option.some.injEq, lackN, wTruth, wMinL, roMinL, wEnum, wSlTo, wSlFrom, wPopAt, wLenO, wApp, fillD, List.getD_cons_zero, List.getD_cons_succ, dgPt, ptD, ptsD, wRng3, wUnp, wLcP, outs, ptIx, ptsIx, stillS_un, stillS_sh, backs, ends, wListR, wCountO, wFrz,  wIf, wNext, wBreak, wCont, wRet, wRetN, wDrop, wSet, wTest, wAndB, wOrB, wNotB, wIsi, wVar, wC, wOp, wRaise, wCall, wCons, wNil, wFun, wPar, wTup, wNeg, wUn, wIfE, wAndV, wOrV, wNotV, wUnp2, wLst, wIxO, wLenO, wSetIx, wAppend, wDic0, wFor, wItemsL, wItemsS, wRng1, wRng2, wListRev, dgName, roAdd, roI, roI0, roB, roIx, roIsN, roF, roL, datas, List.map_cons, List.map_nil, entry, List.length_cons, List.length_nil, List.cons_append, List.nil_append, List.replicate, List.replicate_succ, List.replicate_zero, Nat.reduceAdd, Nat.reduceSub, Nat.zero_add,
  List.getElem?_cons_zero, List.getElem?_cons_succ, List.set_cons_zero, List.set_cons_succ, dat_sh, dat_ow, dat_dp, DL.isInt, DL.isBool, DL.isStr, DL.isLst, DL.isTup, PinD, Bool.not_true, Bool.not_false, Bool.false_eq_true, if_true, if_false, true_and, and_true, OkAD, bodyEnds, pInt1, pInt2, fAbs, fMin, fMax, pIntOf, fIntOf, pLen, fLen, pSeq, fSeq, reduceIte, decide_eq_true_eq, ite_true, ite_false, Bool.and_eq_true, Bool.not_eq_true', roEq_int, Bool.true_xor, Bool.false_xor, Bool.true_eq_false])
theorem sat_plain_scores : ∀ ds Q E', W_plain_scores ds Q E' → p_plain_scores (bodyEnds Q) (entry 4 ds) (fun e _ => E' e) := by
  rintro ds Q E' ⟨d, r, rfl, hv, h1, h2⟩
  unfold p_plain_scores
  refine wSeq_k ?_
  intro N1 hN1
  walk_at "dl"
  cases hv with
  | bad hd => exact call_chkT tbl_len (by rw [hd]; rfl) (fun e => by rw [hd] at e; cases e) (fun _ => h2 _ rfl)
  | @good w l hT =>
    refine call_chkT tbl_len rfl (fun _ => hN1 _ ?_) isT_no
    have p64 := hT.pow
    have sl : (sgD l).length = 2 ^ w := by rw [sgD_iD, iD_len, sgI_len, hT.len]
    refine wSeq_k ?_
    intro N2 hN2
    walk_at "dl"
    refine ⟨by decide +kernel, w, l, rfl, hT, fun p => ?_⟩
    try walk_at "dl"
    refine hN2 _ ?_
    clear hN2
    refine wSeq_k ?_
    intro N3 hN3
    walk_at "dl"
    refine ⟨w, l, rfl, hT, ?_⟩
    try walk_at "dl"
    refine call_spsN hT.w6 ?_
    try walk_at "dl"
    refine hN3 _ ?_
    clear hN3
    refine wSeq_i ?_
    walk_at "dl"
    rw [sl, Int.toNat_natCast]
    refine ⟨by omega, ?_⟩
    refine lc_rowN (fun x => .int (sc w l x)) (by omega) rfl (fun x hx Q0 E0 q0 => ?_) fun q => ?_
    · try walk_at "dl"
      exact ⟨w, l, x, rfl, hT, hx, q0⟩
    · have e : (List.range (2 ^ w)).map (fun x => D.int (sc w l x)) = iD (scL w l) := by rw [scL_eq hT]; unfold iD; rw [List.map_map]; rfl
      rw [e]
      exact ⟨_, .refl _, h1 _ rfl q⟩
theorem fam_pl {k : Int} {gs : List D} (h : GivQ k gs) : plD 5 (.lst gs) = true := by
  obtain ⟨x, rfl, _, _, h1, _⟩ := h
  show (decide ([x].length ≤ 1000) && ([x].all (plD 4))) = true
  simp only [List.length_cons, List.length_nil, List.all_cons, List.all_nil, Bool.and_true]
  rw [plD_up h1]; rfl
theorem asT_qf (w : Nat) (r : List Int) : asT (qfD w r) = qfD w r := asT_row (.inl rfl)
theorem asT_sc (w : Nat) (l : List Nat) : asT (scD w l) = scD w l := asT_row (.inl rfl)
theorem fam_ask {k : Int} {gs : List D} {m : Kd} (h : DueR k gs m) : AskR k (gs.map asT) (mT m) := by
  obtain ⟨x, rfl, k0, k6, hx, ha, hb⟩ := h
  refine ⟨asT x, rfl, k0, k6, fun c => ?_, fun c => ?_⟩
  · rcases ha c with ⟨h1, rfl⟩ | ⟨w, l, rfl, hT, rfl⟩
    · exact .bad (isT_asT hx h1)
    · rw [asT_mdl hT]
      show TabR scD _ (.ok (asT (scD w l)))
      rw [asT_sc]
      exact .good hT
  · rcases hb c with ⟨e, he, rfl⟩ | ⟨w, r, h1, h2, h3, rfl⟩
    · exact .bad he
    · rw [asT_row h1]
      show FldR _ _ _ (.ok (asT (qfD w r)))
      rw [asT_qf]
      exact .good h1 h2 h3
theorem tbl_lay : PyData.canLay0 (.str "table") = true := by decide +kernel
theorem fam_err {k : Int} {g : List D} {e : Er} (h : AskR k g (.error e)) : ∃ c a, e = ⟨c, some (.str a)⟩ ∧ cls3 c ∧ PyData.canLay0 (.str a) = true := by
  obtain ⟨d, rfl, k0, k6, h0, h1⟩ := h
  by_cases c : k % 3 = 2
  · cases h1 c with
    | bad hf =>
      rcases field_err hf with rfl | rfl
      · exact ⟨_, _, rfl, .inl rfl, fd_lay⟩
      · exact ⟨_, _, rfl, .inr (.inl rfl), fd_lay⟩
  · cases h0 c with
    | bad hf => exact ⟨_, _, rfl, .inl rfl, tbl_lay⟩
theorem fam_due {k : Int} {gs : List D} {v : D} (h : DueR k gs (.ok v)) : plD 5 v = true := by
  obtain ⟨x, rfl, k0, k6, hx, ha, hb⟩ := h
  by_cases c : k % 3 = 2
  · rcases hb c with ⟨e, he, z⟩ | ⟨w, r, h1, h2, h3, z⟩
    · cases z
    · injection z with z
      have p64 : 2 ^ w ≤ 64 := Nat.pow_le_pow_right (n := 2) (by decide) h3
      subst z
      exact (plD_iD (by rw [bflys_len]; omega)).2
  · rcases ha c with ⟨h1, z⟩ | ⟨w, l, rfl, hT, z⟩
    · cases z
    · injection z with z
      subst z
      exact (plD_iD (by rw [scL_len hT]; have := hT.pow; omega)).2
theorem sat_law_fault : ∀ ds Q E', W_law_fault ds Q E' → p_law_fault (bodyEnds Q) (entry 3 ds) (fun e _ => E' e) := by
  rintro ds Q E' ⟨k, x, r, rfl, k0, k3, hx, ⟨f1, f2⟩, hq⟩
  unfold p_law_fault
  refine wSeq_k ?_
  intro N1 hN1
  refine wIf_k ?_
  intro A1 B1 hA1 hB1
  try walk_at "dl"
  by_cases c2 : k < 2
  · rw [if_pos c2]
    refine hA1 _ ?_
    have hr := f1 (by omega)
    refine wSeq_i ?_
    unfold wRet wIx wOp wLst
    simp only [wCons, wC, wNil, wTup, wInt, wCall, wVar, datas, List.map_cons, List.map_nil, dat_sh, dat_ow, List.set_cons_succ, List.set_cons_zero, List.getElem?_cons_succ, List.getElem?_cons_zero, roIx, bodyEnds]
    intro p
    try walk_at "dl"
    simp only [at0]
    refine call_mdl hx.1 ?_
    try walk_at "dl"
    by_cases c : isM x = true
    · rw [if_pos c] at hr
      subst hr
      rw [c]
      exact ⟨_, rfl, bodyR hq⟩
    · rw [if_neg c] at hr
      subst hr
      rw [Bool.not_eq_true] at c
      rw [c]
      exact ⟨_, rfl, bodyR hq⟩
  · rw [if_neg c2]
    refine hB1 _ ?_
    clear hA1 hB1
    try walk_at "dl"
    have hf := f2 (by omega)
    refine hN1 _ ?_
    clear hN1
    refine wSeq_k ?_
    intro N2 hN2
    walk_at "dl"
    refine hN2 _ ?_
    clear hN2
    have fin : ∀ z : Str, PyData.canLay0 (.str z) = true → (z = "" ∧ fltD r = .non ∨ z ≠ "" ∧ fltD r = .tup [.str z, .str "field"]) → W_law_first_fault [.lst [.tup [.str "field", .str z]]] (fun x => ∃ y, Cv x y ∧ Q y) (fun e => E' e) := fun z hz h => by
      refine call_firstM (d := fltD r) ?_ (bodyR hq)
      unfold firstF
      rw [if_pos hz]
      rcases h with ⟨h1, h2⟩ | ⟨h1, h2⟩
      · rw [if_pos h1, h2]; rfl
      · rw [if_neg h1, h2]
    refine wSeq_k ?_
    intro N3 hN3
    walk_at "dl"
    simp only [at0]
    refine call_mdl hx.1 ?_
    try walk_at "dl"
    by_cases c : isM x = true
    · obtain ⟨w, l, rfl, hT⟩ := isM_mdl c
      rw [c]
      rw [asT_mdl hT] at hf
      injection hf with hf
      try walk_at "dl"
      refine hN3 _ ?_
      clear hN3
      refine wSeq_i ?_
      walk_at "dl"
      intro p
      refine fin _ wk_lay (.inr ⟨by decide, ?_⟩)
      rw [← hf]
      rfl
    · have e : asT x = x := hx.2.1.resolve_left c
      rw [Bool.not_eq_true] at c
      rw [e] at hf
      rw [c]
      try walk_at "dl"
      refine ⟨_, x, r, rfl, hf, ?_⟩
      try walk_at "dl"
      refine hN3 _ ?_
      clear hN3
      refine wSeq_i ?_
      walk_at "dl"
      intro p
      refine fin _ (fe_lay hf) ?_
      cases r with
      | ok v => exact .inl ⟨rfl, rfl⟩
      | error e => rcases field_err hf with rfl | rfl <;> exact .inr ⟨by decide, rfl⟩
theorem sat_law_due : ∀ ds Q E', W_law_due ds Q E' → p_law_due (bodyEnds Q) (entry 4 ds) (fun e _ => E' e) := by
  rintro ds Q E' ⟨k, gs, rfl, ⟨x, rfl, k0, k6, hx⟩, hq⟩
  unfold p_law_due
  refine wSeq_k ?_
  intro N1 hN1
  walk_at "dl"
  refine ⟨cnz, ?_⟩
  rw [Int.fmod_eq_emod_of_nonneg _ (by decide)]
  refine hN1 _ ?_
  clear hN1
  have hk3 : 0 ≤ k % 3 ∧ k % 3 < 3 := ⟨Int.emod_nonneg _ (by decide), Int.emod_lt_of_pos _ (by decide)⟩
  have key : ∃ r, FltQ (k % 3) x r ∧ ((∃ e, r = .error e ∧ DueR k [x] (.error e) ∧ fltD (.error e) ≠ .non ∧ toldD (.error e) = .tup [.str "refused", fltD (.error e)]) ∨ (∃ v, r = .ok v)) := by
    by_cases c : k % 3 = 2
    · obtain ⟨r, hf⟩ := field_some hx
      refine ⟨r, ⟨fun z => absurd c z, fun _ => hf⟩, ?_⟩
      cases r with
      | ok v => exact .inr ⟨v, rfl⟩
      | error e =>
        refine .inl ⟨e, rfl, ⟨x, rfl, k0, k6, hx, fun z => absurd c z, fun _ => .inl ⟨e, hf, rfl⟩⟩, ?_⟩
        rcases field_err hf with rfl | rfl <;> exact ⟨(fun z => by cases z), rfl⟩
    · refine ⟨if isM x = true then .ok .non else .error (Er1 "WrongKind" "table"), ⟨fun _ => rfl, fun z => absurd z c⟩, ?_⟩
      by_cases cm : isM x = true
      · exact .inr ⟨.non, by rw [if_pos cm]⟩
      · refine .inl ⟨_, by rw [if_neg cm], ⟨x, rfl, k0, k6, hx, fun _ => .inl ⟨by rw [Bool.not_eq_true] at cm; exact cm, rfl⟩, fun z => absurd z c⟩, (fun z => by cases z), rfl⟩
  obtain ⟨r, hF, hr⟩ := key
  refine wSeq_k ?_
  intro N2 hN2
  walk_at "dl"
  refine ⟨_, x, r, rfl, hk3.1, hk3.2, hx, hF, ?_⟩
  refine hN2 _ ?_
  clear hN2
  rcases hr with ⟨e, rfl, hD, hn, ht⟩ | ⟨v, rfl⟩
  · have h := hq _ hD
    rw [ht] at h
    generalize fltD (.error e) = z at h hn
    refine wSeq_k ?_
    intro N3 hN3
    try walk_at "dl"
    exact bodyR h
  · refine wSeq_k ?_
    intro N3 hN3
    try walk_at "dl"
    refine hN3 _ ?_
    clear hN3
    refine wSeq_k ?_
    intro N4 hN4
    walk_at "dl"
    by_cases c : k % 3 = 2
    · rw [if_pos c]
      simp only [at0]
      obtain ⟨w, q, h1, h2, h3, h4⟩ := rowQ_of hx (hF.2 c)
      have h := hq (.ok (qfD w q)) ⟨x, rfl, k0, k6, hx, fun z => absurd c z, fun _ => .inr ⟨w, q, h1, h2, h3, rfl⟩⟩
      exact ⟨w, x, q, rfl, h1, h2, h3, h4, bodyR h⟩
    · rw [if_neg c]
      refine hN4 _ ?_
      clear hN4
      have cm : isM x = true := by
        cases cm : isM x with
        | true => rfl
        | false =>
          have := hF.1 c
          rw [cm] at this
          cases this
      obtain ⟨w, l, rfl, hT⟩ := isM_mdl cm
      have h := hq (.ok (scD w l)) ⟨_, rfl, k0, k6, hx, fun _ => .inr ⟨w, l, rfl, hT, rfl⟩, fun z => absurd z c⟩
      have p64 := hT.pow
      refine wSeq_i ?_
      walk_at "dl"
      simp only [at0]
      unfold mdl
      refine ⟨_, rfl, ?_⟩
      have en : nD l = l.map fun (n : Nat) => D.int n := rfl
      show lcD 3 _ _ _ (nD l) [] _
      rw [en]
      refine lcD_all (fun (n : Nat) => D.int n) (fun n => D.int (1 - 2 * ((n : Nat) : Int))) l (fun n hn Q0 E0 q0 => ?_) rfl (by rw [hT.len]; omega) fun p => ?_
      · have := hT.bit n hn
        try walk_at "dl"
        exact ⟨.inl (.inl ⟨by omega, by omega⟩), q0⟩
      · have e : (l.map fun n => D.int (1 - 2 * ((n : Nat) : Int))) = iD (sgI l) := sgD_iD l
        rw [e]
        obtain ⟨g1, g2⟩ := giv_sg hT
        exact ⟨w, _, sgI l, rfl, .inl rfl, g2, hT.w6, fun x hx => bd_mono (g1 x hx) (by decide), bodyR h⟩
theorem sat_law_ask : ∀ ds Q E', W_law_ask ds Q E' → p_law_ask (bodyEnds Q) (entry 2 ds) (fun e _ => E' e) := by
  rintro ds Q E' ⟨k, g, r, rfl, ⟨d, rfl, k0, k6, h0, h1⟩, hq⟩
  have hn : ∀ v, r = .ok (.lst v) → NoLs v = true := fun v e => by
    subst e
    by_cases c : k % 3 = 2
    · have := h1 c
      generalize hz : D.lst v = z at this
      cases this with
      | good a b c => injection hz with hz; rw [hz]; exact noLs_map' _ (fun _ => rfl) _
    · have := h0 c
      generalize hz : D.lst v = z at this
      cases this with
      | good a => injection hz with hz; rw [hz]; exact noLs_map' _ (fun _ => rfl) _
  have hq' : endsO r (fun z => ∃ y, Cv z y ∧ Q y) E' := ⟨fun v e p => bodyR (hq.1 _ e (.ow p v) (hn v e) rfl), hq.2⟩
  unfold p_law_ask
  refine wSeq_k ?_
  intro N1 hN1
  walk_at "dl"
  simp only [at0]
  by_cases c0 : k = 0
  · rw [if_pos c0]
    exact ⟨d, r, rfl, h0 (by omega), hq'⟩
  rw [if_neg c0]
  refine hN1 _ ?_
  clear hN1
  refine wSeq_k ?_
  intro N2 hN2
  walk_at "dl"
  simp only [at0]
  by_cases c1 : k = 1
  · rw [if_pos c1]
    exact ⟨d, r, rfl, h0 (by omega), hq'⟩
  rw [if_neg c1]
  refine hN2 _ ?_
  clear hN2
  refine wSeq_k ?_
  intro N3 hN3
  walk_at "dl"
  simp only [at0]
  by_cases c2 : k = 2
  · rw [if_pos c2]
    exact ⟨d, r, rfl, h1 (by omega), hq'⟩
  rw [if_neg c2]
  refine hN3 _ ?_
  clear hN3
  refine wSeq_k ?_
  intro N4 hN4
  walk_at "dl"
  simp only [at0]
  by_cases c3 : k = 3
  · rw [if_pos c3]
    exact ⟨d, r, rfl, h0 (by omega), hq'⟩
  rw [if_neg c3]
  refine hN4 _ ?_
  clear hN4
  refine wSeq_k ?_
  intro N5 hN5
  walk_at "dl"
  simp only [at0]
  by_cases c4 : k = 4
  · rw [if_pos c4]
    exact ⟨d, r, rfl, h0 (by omega), hq'⟩
  rw [if_neg c4]
  refine hN5 _ ?_
  clear hN5
  refine wSeq_i ?_
  walk_at "dl"
  simp only [at0]
  exact ⟨d, r, rfl, h1 (by omega), hq'⟩
theorem sat_law_called : ∀ ds Q E', W_law_called ds Q E' → p_law_called (bodyEnds Q) (entry 3 ds) (fun e _ => E' e) := by
  rintro ds Q E' ⟨k, g, r, rfl, hA, q1, q2⟩
  unfold p_law_called
  refine wSeq_k ?_
  intro N1 hN1
  unfold wTry
  walk_at "dl"
  refine ⟨k, g, r, rfl, hA, fun v e y o d => ?_, fun e he => ?_⟩
  · refine ⟨fun x hx => ?_, ?_⟩
    · rcases List.mem_cons.mp hx with rfl | hx
      · rfl
      · rw [List.mem_singleton.mp hx]; exact o
    · rw [d]
      exact ⟨_, .refl _, q1 v _ e⟩
  · obtain ⟨c, a, rfl, hc, _⟩ := fam_err (he ▸ hA)
    have e1 : caSE errs c = some true := by unfold caSE; rw [if_pos (by rcases hc with rfl | rfl | rfl <;> decide +kernel)]
    simp only [e1]
    intro a2 oe h1 h2
    try walk_at "dl"
    refine ⟨⟨c, .str a, rfl, hc⟩, fun v ⟨c', a', e, ev⟩ => ?_, fun _ z => z.elim⟩
    cases e
    rw [ev]
    try walk_at "dl"
    exact bodyR (q2 _ he)
theorem fam_told {k : Int} {gs : List D} {m : Kd} (h : DueR k gs m) : ∃ z v, toldD m = .tup [.str z, v] ∧ plD 5 v = true ∧ PyData.canLay0 (.str z) = true ∧ ∀ (Q : Sl → Prop) (E : Er → Prop), (∀ y, okO y = true → y.dat = .tup [.str z, asT v] → Q y) → W_law_called [.int k, .lst (gs.map asT)] Q E := by
  have hA := fam_ask h
  cases m with
  | ok v => exact ⟨_, v, rfl, fam_due h, by decide +kernel, fun Q E q => ⟨k, _, _, rfl, hA, (fun v' F e => by injection e with e; subst e; exact q _ rfl rfl), fun e he => by cases he⟩⟩
  | error e =>
    obtain ⟨c, a, rfl, hc, la⟩ := fam_err hA
    have lc : PyData.canLay0 (.str c) = true := by rcases hc with rfl | rfl | rfl <;> decide +kernel
    have e1 : ∀ z : Str, asT (.str z) = .str z := fun z => by unfold asT; rfl
    have e2 : asT (.tup [.str c, .str a]) = .tup [.str c, .str a] := by
      have : isM (.tup [.str c, .str a]) = false := isM_two fun ⟨⟨w, e, _⟩, _⟩ => by cases e
      rw [asT_tup this]
      simp only [List.map_cons, List.map_nil, e1]
    refine ⟨"refused", .tup [.str c, .str a], rfl, ?_, by decide +kernel, fun Q E q => ⟨k, _, _, rfl, hA, (fun v' F e => by cases e), fun e he => ?_⟩⟩
    · show (decide ([D.str c, .str a].length ≤ 1000) && (PyData.canLay0 (.str c) && (PyData.canLay0 (.str a) && true))) = true
      rw [lc, la]; rfl
    · injection he with he
      subst he
      refine q _ rfl ?_
      rw [e2]; rfl
theorem sat_law_right : ∀ ds Q E', W_law_right ds Q E' → p_law_right (bodyEnds Q) (entry 8 ds) (fun e _ => E' e) := by
  rintro ds Q E' ⟨k, gs, rfl, hG, hq⟩
  have hP := fam_pl hG
  have hI := (plD_asT hP).1
  have hX := (plD_asT hP).2
  have hI0 := plD_plI hP
  rw [asT_lst] at hI hX
  obtain ⟨hl, hx⟩ := plD_lst hP
  unfold p_law_right
  refine wSeq_k ?_
  intro N1 hN1
  walk_at "dl"
  refine ⟨k, gs, rfl, hG, fun m hm => ?_⟩
  obtain ⟨z, v, ed, pv, lz, hcall⟩ := fam_told hm
  rw [ed]
  obtain ⟨hvI, hvX⟩ := plD_asT pv
  have hI6 : plI 6 (.lst (gs.map asT)) = true := by rw [← asT_lst]; exact (plD_asT (plD_up hP)).1
  have hv0 := plD_plI pv
  refine hN1 _ ?_
  clear hN1
  refine wSeq_k ?_
  intro N2 hN2
  walk_at "dl"
  refine call_asT hP fun y o d => ?_
  rw [d, asT_lst]
  refine hN2 _ ?_
  clear hN2
  refine wSeq_k ?_
  intro N3 hN3
  try walk_at "dl"
  refine ⟨by decide, forD_rng (n := 2) (fun _ ρ => ∃ s4 : Sl, ρ = [.sh (.int k), .sh (.lst gs), .sh (.tup [.str z, v]), .sh (.lst (gs.map asT)), s4, .un, .un, .un]) ?_ ?_ ⟨_, rfl⟩⟩
  · rintro ρ ⟨s4, rfl⟩
    refine hN3 _ ?_
    clear hN3
    refine wSeq_i ?_
    walk_at "dl"
    exact bodyR hq
  · rintro i ρ hi ⟨s4, rfl⟩ K hK
    simp only [dgName]
    refine wSeq_k ?_
    intro N4 hN4
    try walk_at "dl"
    refine ⟨by omega, ?_⟩
    rw [Int.toNat_natCast]
    have hlm : (rangeD 0 gs.length).map (fun d => asT (gs.getD (intOf d).toNat .non)) = gs.map asT := by
      rw [rangeD_map, List.map_map]
      refine List.ext_getElem (by rw [List.length_map, List.length_map, List.length_range]) fun j h1 h2 => ?_
      rw [List.getElem_map, List.getElem_map, List.getElem_range]
      have hj : j < gs.length := by rw [List.length_map] at h2; exact h2
      show asT (gs.getD ((j : Nat) : Int).toNat .non) = _
      rw [Int.toNat_natCast, List.getD_eq_getElem?_getD, List.getElem?_eq_getElem hj]; rfl
    refine lcO_all (fun d => asT (gs.getD (intOf d).toNat .non)) rfl _ _ _ (by rw [rangeD_len, List.length_nil]; omega) (fun x hx2 R hR => ?_) fun F p => ?_
    · rw [rangeD_map] at hx2
      obtain ⟨j, hj, rfl⟩ := List.mem_map.mp hx2
      have hj := List.mem_range.mp hj
      obtain ⟨x, hxm, e⟩ := at_same hj
      have eg : gs.getD j .non = x := by
        rw [List.getD_eq_getElem?_getD]
        unfold atD atI at e
        rw [ix_in (by omega) (by omega), Int.toNat_natCast] at e
        have e : gs[j]? = some x := e
        rw [e]; rfl
      have hR : ∀ y, okO y = true → y.dat = asT x → R y _ := fun y h1 h2 => hR y h1 (by rw [h2]; show _ = asT (gs.getD ((j : Nat) : Int).toNat .non); rw [Int.toNat_natCast, eg])
      try walk_at "dl"
      refine ⟨x, e, call_mdl (hx x hxm) ?_⟩
      try walk_at "dl"
      by_cases c : isM x = true
      · rw [if_pos c]
        try walk_at "dl"
        refine ⟨asT x, atD_asT hj e, hR _ ?_ rfl⟩
        obtain ⟨w, l, rfl, hT⟩ := isM_mdl c
        rw [asT_mdl hT]
        exact noL_tb w l
      · rw [if_neg c]
        try walk_at "dl"
        exact ⟨x, e, call_asT (plD_up (hx x hxm)) fun y o d => hR y o d⟩
    · rw [List.nil_append, hlm]
      refine hN4 _ ?_
      clear hN4
      refine wSeq_k ?_
      intro N5 hN5
      try walk_at "dl"
      refine ⟨5, ?_, ?_⟩
      · simp only [lendOkI, dat_sh, dat_dp]
        exact ⟨(fun z => by cases z), rfl, (fun z => by cases z), hI, trivial⟩
      simp only [lendE]
      try walk_at "dl"
      refine hcall _ _ fun y2 o2 d2 => ⟨o2, fun F2 => ?_⟩
      rw [d2]
      refine hN5 _ ?_
      clear hN5
      refine wSeq_k ?_
      intro N6 hN6
      refine wIf_k ?_
      intro A6 B6 hA6 hB6
      unfold wOrB wNotB wTest wLendI
      have h6 : plI 6 (.tup [.str z, asT v]) = true := by
        show (true && (true && (plI 5 (asT v) && true))) = true
        rw [hvI]; rfl
      have h6b : plI 6 (.tup [.str z, v]) = true := by
        show (true && (true && (plI 5 v && true))) = true
        rw [hv0]; rfl
      refine ⟨6, ?_, ?_⟩
      · simp only [lendOkI, dat_sh, dat_dp]
        exact ⟨(fun z => by cases z), h6, trivial⟩
      simp only [lendE]
      try walk_at "dl"
      simp only [at0]
      try walk_at "dl"
      refine ⟨rfl, eq_str lz lz ?_⟩
      rw [decide_eq_true rfl]
      try walk_at "dl"
      refine ⟨6, ?_, ?_⟩
      · simp only [lendOkI, dat_sh, dat_dp]
        exact ⟨(fun z => by cases z), h6b, (fun z => by cases z), h6, trivial⟩
      refine ⟨_, rfl, _, rfl, ?_⟩
      refine call_meets (plD_up pv) ⟨rfl, ?_⟩
      try walk_at "dl"
      refine ⟨6, ?_, ?_⟩
      · simp only [lendOkI, dat_sh, dat_dp]
        exact ⟨(fun z => by cases z), plD_plI (plD_up hP), (fun z => by cases z), hI6, trivial⟩
      rw [← asT_lst]
      refine call_meets (plD_up hP) ⟨rfl, ?_⟩
      try walk_at "dl"
      refine hB6 _ ?_
      clear hA6 hB6
      try walk_at "dl"
      refine hN6 _ ?_
      clear hN6
      refine wSeq_k ?_
      intro N7 hN7
      unfold wSpoilX
      refine ⟨_, rfl, rfl, (plD_asT hP).2, ?_⟩
      refine hN7 _ ?_
      clear hN7
      refine wSeq_k ?_
      intro N8 hN8
      try walk_at "dl"
      unfold wLendI
      refine ⟨6, ?_, ?_⟩
      · simp only [lendOkI, dat_sh, dat_dp]
        exact ⟨(fun z => by cases z), h6b, (fun z => by cases z), h6, trivial⟩
      simp only [lendE]
      try walk_at "dl"
      refine ⟨_, rfl, _, rfl, ?_⟩
      refine call_meets (plD_up pv) ⟨rfl, ?_⟩
      try walk_at "dl"
      refine hN8 _ ?_
      clear hN8
      refine wSeq_i ?_
      unfold wSpoilEX wMvIx
      try walk_at "dl"
      refine fun F3 => ⟨rfl, hvX, ?_⟩
      try walk_at "dl"
      rw [asT_lst]
      exact hK _ ⟨_, rfl⟩
end C
set_option Elab.async false
set_option maxRecDepth 100000
set_option maxHeartbeats 1000000
set_option linter.unusedVariables false
namespace C
open PySem PySem.Spec PyProof.Rows L2 NdefX DL
local macro_rules | `(tactic| walk_at "dl") => `(tactic| simp only [wSeq, wMaxD, wMinD, roMaxD, roMinD, wLcO, wAppIx,  roAny,  wSpoilX, wSpoilEX, wSpoilVI, wSpoilEI, isDic, wDicC, wTupO, wLendID,  wCountF, wIndexF, wMvIxL,  wLc, wTrue, wRaise0, wRaiseL, wSplit, wJoin, wFs, wSlS1, wSlS2, wAug, wItemsC, wEnum, pStr, fStr, pIntS, fIntS, roInS, orF, NoExc, dgTwo, wItemsT, wSlS0, wIsdig, roMulS, roInL, wIndexS, wSum, pSum, fSum, lk_wide, lk_held, okT_T, wFld, wGet, wMeth, wOwn2, wOwnI, wOwn1, wOwnLen, wOwnStr, wRevT, wZip, wItemsLT, wTupD, wLstD, wMv, isOwn, insOf, iStm, iFld, iEnd, pSumT, fSumT, wNever, tb, eq_self, exists_eq_left', Option.some.injEq, lackN, wTruth, wMinL, roMinL, wEnum, wSlTo, wSlFrom, wPopAt, wLenO, wApp, fillD, List.getD_cons_zero, List.getD_cons_succ, dgPt, ptD, ptsD, wRng3, wUnp, wLcP, outs, ptIx, ptsIx, stillS_un, stillS_sh, backs, ends, wListR, wCountO, wFrz,  wIf, wNext, wBreak, wCont, wRet, wRetN, wDrop, wSet, wTest, wAndB, wOrB, wNotB, wIsi, wVar, wC, wOp, wRaise, wCall, wCons, wNil, wFun, wPar, wTup, wNeg, wUn, wIfE, wAndV, wOrV, wNotV, wUnp2, wLst, wIxO, wLenO, wSetIx, wAppend, wDic0, wFor, wItemsL, wItemsS, wRng1, wRng2, wListRev, dgName, roAdd, roI, roI0, roB, roIx, roIsN, roF, roL, datas, List.map_cons, List.map_nil, entry, List.length_cons, List.length_nil, List.cons_append, List.nil_append, List.replicate, List.replicate_succ, List.replicate_zero, Nat.reduceAdd, Nat.reduceSub, Nat.zero_add,
  List.getElem?_cons_zero, List.getElem?_cons_succ, List.set_cons_zero, List.set_cons_succ, dat_sh, dat_ow, dat_dp, DL.isInt, DL.isBool, DL.isStr, DL.isLst, DL.isTup, PinD, Bool.not_true, Bool.not_false, Bool.false_eq_true, if_true, if_false, true_and, and_true, OkAD, bodyEnds, pInt1, pInt2, fAbs, fMin, fMax, pIntOf, fIntOf, pLen, fLen, pSeq, fSeq, reduceIte, decide_eq_true_eq, ite_true, ite_false, Bool.and_eq_true, Bool.not_eq_true', roEq_int, Bool.true_xor, Bool.false_xor, Bool.true_eq_false])
theorem sat_law_signs : ∀ ds Q E', W_law_signs ds Q E' → p_law_signs (bodyEnds Q) (entry 3 ds) (fun e _ => E' e) := by
  rintro ds Q E' ⟨w, l, rfl, hT, hq⟩
  have p64 := hT.pow
  unfold p_law_signs mdl
  refine wSeq_i ?_
  walk_at "dl"
  refine ⟨_, rfl, ?_⟩
  show lcD 2 _ _ _ (nD l) [] _
  have en : nD l = l.map fun (n : Nat) => D.int n := rfl
  rw [en]
  refine lcD_all (fun (n : Nat) => D.int n) (fun n => D.int (1 - 2 * ((n : Nat) : Int))) l (fun n hn Q0 E0 q0 => ?_) rfl (by rw [hT.len]; omega) fun p => ?_
  · have := hT.bit n hn
    try walk_at "dl"
    exact ⟨.inl (.inl ⟨by omega, by omega⟩), q0⟩
  · have e : (l.map fun n => D.int (1 - 2 * ((n : Nat) : Int))) = iD (sgI l) := sgD_iD l
    rw [e]
    exact call_asrow (bodyR (hq _ (.inl rfl))) (bodyR (hq _ (.inr rfl)))
theorem mdl_inj {w v : Nat} {l m : List Nat} (h : mdl w l = mdl v m) : w = v ∧ l = m := by
  unfold mdl at h
  injection h with h
  injection h with h1 h2
  injection h2 with h2 _
  injection h1 with h1
  injection h2 with h2
  rw [nD_iD, nD_iD] at h2
  have h3 := congrArg (List.map Int.toNat) (iD_inj h2)
  rw [List.map_map, List.map_map] at h3
  have e : ∀ z : List Nat, z.map (Int.toNat ∘ fun (n : Nat) => (n : Int)) = z := fun z => (List.map_congr_left (g := id) fun x _ => rfl).trans (List.map_id z)
  rw [e, e] at h3
  exact ⟨by omega, h3⟩
theorem due_sc {k : Int} {w : Nat} {l : List Nat} {m : Kd} (hT : TB w l) (hk : k % 3 ≠ 2) (h : DueR k [mdl w l] m) : m = .ok (scD w l) := by
  obtain ⟨x, e, _, _, hx, ha, _⟩ := h
  injection e with e
  subst e
  rcases ha hk with ⟨h1, _⟩ | ⟨v, q, e, _, rfl⟩
  · rw [isM_of hT] at h1; cases h1
  · obtain ⟨rfl, rfl⟩ := mdl_inj e; rfl
theorem sat_law_shared : ∀ ds Q E', W_law_shared ds Q E' → p_law_shared (bodyEnds Q) (entry 9 ds) (fun e _ => E' e) := by
  rintro ds Q E' ⟨w, l, v, m, rfl, hT, hM, hq⟩
  have hP : plD 5 (.lst [mdl w l, mdl v m]) = true := by
    show (true && (plD 4 (mdl w l) && (plD 4 (mdl v m) && true))) = true
    rw [plD_mdl (n := 1) hT, plD_mdl (n := 1) hM]; rfl
  have eA : asT (.lst [mdl w l, mdl v m]) = .lst [tb w l, tb v m] := by
    rw [asT_lst]
    simp only [List.map_cons, List.map_nil, asT_mdl hT, asT_mdl hM]
  unfold p_law_shared
  refine wSeq_k ?_
  intro N1 hN1
  walk_at "dl"
  refine call_asT hP fun y o d => ?_
  rw [d, eA]
  generalize g1 : tb w l = T1
  generalize g2 : tb v m = T2
  refine hN1 _ ?_
  clear hN1
  refine wSeq_k ?_
  intro N2 hN2
  walk_at "dl"
  have dueC : ∀ (u : Nat) (q : List Nat) (Q0 : Sl → DEnv → Prop) (E0 : EC), TB u q → Q0 (.sh (scD u q)) ([Sl.sh D.sto, Sl.sh (D.lst [mdl w l, mdl v m]), Sl.sh (.lst [T1, T2]), .un, .un, .un, .un, .un, .sh (mdl u q)]) → wIx (wCall W_law_due (wCons (wC (D.int 0)) (wCons (wLst (wCons (wVar 8) wNil)) wNil))) (wC (D.int 1)) [Sl.sh D.sto, Sl.sh (D.lst [mdl w l, mdl v m]), Sl.sh (.lst [T1, T2]), .un, .un, .un, .un, .un, .sh (mdl u q)] Q0 E0 := fun u q Q0 E0 hU q0 => by
    try walk_at "dl"
    intro p
    refine ⟨0, _, rfl, ⟨_, rfl, by decide, by decide, giv_mdl hU⟩, fun r hr => ?_⟩
    rw [due_sc hU (by decide) hr]
    simp only [dat_sh, toldD]
    exact ⟨_, rfl, q0⟩
  have em : [mdl w l, mdl v m] = [(w, l), (v, m)].map fun (z : Nat × List Nat) => mdl z.1 z.2 := rfl
  rw [em]
  refine lcD_all (fun (z : Nat × List Nat) => mdl z.1 z.2) (fun z => scD z.1 z.2) [(w, l), (v, m)] (fun z hz Q0 E0 q0 => ?_) rfl (by simp) fun p => ?_
  · have hz2 : TB z.1 z.2 := by
      rcases List.mem_cons.mp hz with rfl | hz
      · exact hT
      · rw [List.mem_singleton.mp hz]; exact hM
    exact dueC z.1 z.2 Q0 E0 hz2 q0
  simp only [List.map_cons, List.map_nil]
  refine hN2 _ ?_
  clear hN2
  refine wSeq_k ?_
  intro N3 hN3
  walk_at "dl"
  have sel : ∀ j : Int, 0 ≤ j → j < 2 → ∃ u q, TB u q ∧ atD [T1, T2] j = some (tb u q) ∧ atD [scD w l, scD v m] j = some (scD u q) := fun j j0 j2 => by
    rcases (by omega : j = 0 ∨ j = 1) with rfl | rfl
    · exact ⟨w, l, hT, by rw [g1]; rfl, rfl⟩
    · exact ⟨v, m, hM, by rw [g2]; rfl, rfl⟩
  refine ⟨by decide, forD_rng (n := 6) (fun _ ρ => ∃ s4 s5 s6 : Sl, ρ = [.sh .sto, .sh (.lst [mdl w l, mdl v m]), .sh (.lst [T1, T2]), .ow p [scD w l, scD v m], s4, s5, s6, .un, .un]) ?_ ?_ ⟨_, _, _, rfl⟩⟩
  · rintro ρ ⟨s4, s5, s6, rfl⟩
    refine hN3 _ ?_
    clear hN3
    refine wSeq_i ?_
    walk_at "dl"
    rw [← g1, ← g2, ← eA]
    exact call_meets (plD_up hP) (bodyR hq)
  · rintro k ρ hk ⟨s4, s5, s6, rfl⟩ K hK
    simp only [dgName]
    refine wSeq_k ?_
    intro N4 hN4
    walk_at "dl"
    refine call_take (m := 2) (bd_le0 (n := 8) (by decide) (by decide)) fun j j0 j1 => ?_
    try walk_at "dl"
    refine hN4 _ ?_
    clear hN4
    obtain ⟨u, q, hU, e1, e2⟩ := sel j j0 (by omega)
    refine wSeq_k ?_
    intro N5 hN5
    walk_at "dl"
    refine call_take (m := 3) (bd_le0 (n := 8) (by decide) (by decide)) fun a a0 a1 => ?_
    try walk_at "dl"
    refine hN5 _ ?_
    clear hN5
    refine wSeq_k ?_
    intro N6 hN6
    have p64 := hU.pow
    have rest : ∀ y : Sl, okO y = true → y.dat = scD u q → N6 [.sh .sto, .sh (.lst [mdl w l, mdl v m]), .sh (.lst [T1, T2]), .ow p [scD w l, scD v m], .sh (.int (k : Nat)), .sh (.int j), .sh (.int a), y, .un] := fun y o d => by
      have yn : y ≠ .un := fun z => by rw [z] at o; cases o
      have ypl : plS 4 y.dat = true := by
        rw [d]
        show (decide ((iD (scL u q)).length ≤ 100000) && (iD (scL u q)).all (plS 3)) = true
        rw [decide_eq_true (by rw [iD_len, scL_len hU]; omega), List.all_eq_true.mpr fun x hx => by obtain ⟨i, _, rfl⟩ := List.mem_map.mp hx; rfl]; rfl
      have dpl : plS 4 (.lst [scD w l, scD v m]) = true := by
        have one : ∀ (u : Nat) (q : List Nat), TB u q → plS 3 (scD u q) = true := fun u q hU => by
          have := hU.pow
          show (decide ((iD (scL u q)).length ≤ 100000) && (iD (scL u q)).all (plS 2)) = true
          rw [decide_eq_true (by rw [iD_len, scL_len hU]; omega), List.all_eq_true.mpr fun x hx => by obtain ⟨i, _, rfl⟩ := List.mem_map.mp hx; rfl]; rfl
        show (true && (plS 3 (scD w l) && (plS 3 (scD v m) && true))) = true
        rw [one w l hT, one v m hM]; rfl
      refine hN6 _ ?_
      clear hN6
      refine wSeq_k ?_
      intro N7 hN7
      refine wIf_k ?_
      intro A7 B7 hA7 hB7
      unfold wNotB wTest wLend
      refine ⟨4, ⟨(fun z => by cases z), dpl, (fun z => by cases z), rfl, yn, ypl, trivial⟩, ?_⟩
      simp only [lendE]
      try walk_at "dl"
      refine ⟨_, e2, ?_⟩
      rw [d]
      refine call_sameD (plD_iD (n := 4) (by rw [scL_len hU]; omega)).2 ⟨rfl, ?_⟩
      try walk_at "dl"
      refine hB7 _ ?_
      clear hA7 hB7
      try walk_at "dl"
      refine hN7 _ ?_
      clear hN7
      refine wSeq_i ?_
      unfold wSpoilX
      refine ⟨_, rfl, o, ?_, ?_⟩
      · rw [d]
        show (decide ((iD (scL u q)).length ≤ 100000) && (iD (scL u q)).all (plX true 4)) = true
        rw [decide_eq_true (by rw [iD_len, scL_len hU]; omega), List.all_eq_true.mpr fun x hx => by obtain ⟨i, _, rfl⟩ := List.mem_map.mp hx; rfl]; rfl
      · try walk_at "dl"
        exact hK _ ⟨_, _, _, rfl⟩
    refine wIf_k ?_
    intro A6 B6 hA6 hB6
    try walk_at "dl"
    by_cases c : a = 2
    · rw [if_pos c]
      refine hA6 _ ?_
      refine wSeq_i ?_
      walk_at "dl"
      refine ⟨_, e1, rfl, by decide +kernel, u, q, rfl, hU, fun p3 => ?_⟩
      try walk_at "dl"
      rw [sgD_iD]
      obtain ⟨_, g4⟩ := giv_sg hU
      refine ⟨_, _, rfl, .good (.inl rfl) g4 hU.w6, fun v e p4 => ?_, fun e he => by cases he⟩
      injection e with e
      injection e with e
      subst e
      exact rest (.ow p4 (iD (bflys (sgI q) u))) (noLs_map' _ (fun _ => rfl) _) rfl
    · rw [if_neg c]
      refine hB6 _ ?_
      refine wSeq_i ?_
      walk_at "dl"
      refine ⟨_, e1, fun p3 => ⟨a, _, _, rfl, ⟨_, rfl, a0, by omega, fun _ => .good hU, fun z => absurd z (by omega)⟩, fun v e y o d => ?_, fun e he => by cases he⟩⟩
      injection e with e
      subst e
      exact rest y o d
theorem sat_law : ∀ ns, p_law ⟨fun _ => False, fun z _ => z = .sh (.bl true), fun _ => False, fun _ => False⟩ ((entry 8 [.scr ns]).set 1 (.sh .sto)) noE := by
  intro ns
  have p64 : ∀ v ≤ 6, 2 ^ v ≤ 64 := fun v hv => Nat.pow_le_pow_right (n := 2) (j := 6) (by decide) hv
  unfold p_law
  refine wSeq_k ?_
  intro N1 hN1
  walk_at "dl"
  refine ⟨6, rfl, by decide, fun w l hw hT => ?_⟩
  try walk_at "dl"
  refine hN1 _ ?_
  clear hN1
  refine wSeq_k ?_
  intro N2 hN2
  walk_at "dl"
  refine ⟨by decide, forD_rng (n := 2) (fun _ ρ => ∃ s3 : Sl, ρ = [.sh (.scr ns), .sh .sto, .sh (mdl w l), s3, .un, .un, .un, .un]) ?_ ?_ ⟨_, rfl⟩⟩
  · rintro ρ ⟨s3, rfl⟩
    refine hN2 _ ?_
    clear hN2
    refine wSeq_k ?_
    intro N3 hN3
    have n3 : N3 [.sh (.scr ns), .sh .sto, .sh (mdl w l), s3, .un, .un, .un, .un] := by
      refine hN3 _ ?_
      clear hN3
      refine wSeq_k ?_
      intro N4 hN4
      walk_at "dl"
      refine ⟨by decide, forD_rng (n := 2) (fun _ ρ => ∃ s3 s4 s5 s6 s7 : Sl, ρ = [.sh (.scr ns), .sh .sto, .sh (mdl w l), s3, s4, s5, s6, s7]) ?_ ?_ ⟨_, _, _, _, _, rfl⟩⟩
      · rintro ρ ⟨s3, s4, s5, s6, s7, rfl⟩
        refine hN4 _ ?_
        clear hN4
        refine wSeq_i ?_
        walk_at "dl"
        refine ⟨4, rfl, by decide, fun a b ha hb => ?_⟩
        try walk_at "dl"
        refine ⟨4, rfl, by decide, fun c d hc hd => ?_⟩
        try walk_at "dl"
        intro p
        exact ⟨a, b, c, d, rfl, hb, hd, rfl⟩
      · rintro k ρ hk ⟨s3, s4, s5, s6, s7, rfl⟩ K hK
        simp only [dgName]
        refine wSeq_k ?_
        intro N5 hN5
        walk_at "dl"
        refine ⟨6, rfl, by decide, fun v m hv hM => ?_⟩
        try walk_at "dl"
        refine hN5 _ ?_
        clear hN5
        refine wSeq_k ?_
        intro N6 hN6
        walk_at "dl"
        refine call_take (m := 2) (bd_le0 (n := 8) (by decide) (by decide)) fun a a0 a1 => ?_
        try walk_at "dl"
        refine hN6 _ ?_
        clear hN6
        refine wSeq_k ?_
        intro N7 hN7
        walk_at "dl"
        refine call_take (m := 2) (bd_le0 (n := 8) (by decide) (by decide)) fun b b0 b1 => ?_
        try walk_at "dl"
        refine ⟨.inl (.inl ⟨by omega, by omega⟩), ?_⟩
        refine hN7 _ ?_
        clear hN7
        refine wSeq_k ?_
        intro N8 hN8
        walk_at "dl"
        refine ⟨v, m, rfl, hM, fun d hd => ?_⟩
        try walk_at "dl"
        refine hN8 _ ?_
        clear hN8
        have p64 := hM.pow
        obtain ⟨g1, g2⟩ := giv_sg hM
        have hgl := giv_list (l := sgI m) (by omega) g1
        have hgd : GivX d := by rcases hd with rfl | rfl; exact hgl.1; exact hgl.2
        refine wSeq_k ?_
        intro N9 hN9
        have n9 : N9 [.sh (.scr ns), .sh .sto, .sh (mdl w l), .sh (.int a), .sh (.int (k : Nat)), .sh (mdl v m), .sh (.int (3 * b)), .sh d] := by
          refine hN9 _ ?_
          clear hN9
          refine wSeq_i ?_
          walk_at "dl"
          rcases hd with rfl | rfl
          all_goals
            try walk_at "dl"
            intro p1
            refine ⟨v, sgI m, rfl, g2, hM.w6, g1, fun g hG => ?_⟩
            intro p2
            refine ⟨_, _, rfl, ⟨g, rfl, by omega, by omega, hG⟩, ?_⟩
            try walk_at "dl"
            intro p3
            refine ⟨_, _, rfl, ⟨_, rfl, by omega, by omega, hgd⟩, ?_⟩
            try walk_at "dl"
            exact hK _ ⟨_, _, _, _, _, rfl⟩
        try walk_at "dl"
        refine ⟨v, m, rfl, hM, fun g hG => ?_⟩
        try walk_at "dl"
        intro p2
        refine ⟨_, _, rfl, ⟨g, rfl, by omega, by omega, hG.1⟩, ?_⟩
        try walk_at "dl"
        intro p3
        refine ⟨_, _, rfl, ⟨_, rfl, by omega, by omega, giv_mdl hM⟩, ?_⟩
        try walk_at "dl"
        exact n9
    try walk_at "dl"
    refine call_take (m := 2) (bd_le0 (n := 8) (by decide) (by decide)) fun b b0 b1 => ?_
    try walk_at "dl"
    refine ⟨.inl (.inl ⟨by omega, by omega⟩), ?_⟩
    refine ⟨w, l, rfl, hT, fun d hd => ?_⟩
    have p64 := hT.pow
    obtain ⟨g1, g2⟩ := giv_sg hT
    have hgl := giv_list (l := sgI l) (by omega) g1
    have hgd : GivX d := by rcases hd with rfl | rfl; exact hgl.1; exact hgl.2
    try walk_at "dl"
    intro p2
    refine ⟨_, _, rfl, ⟨_, rfl, by omega, by omega, hgd⟩, ?_⟩
    try walk_at "dl"
    exact n3
  · rintro k ρ hk ⟨s3, rfl⟩ K hK
    simp only [dgName]
    refine wSeq_i ?_
    walk_at "dl"
    refine call_take (m := 2) (bd_le0 (n := 8) (by decide) (by decide)) fun b b0 b1 => ?_
    try walk_at "dl"
    refine ⟨.inl (.inl ⟨by omega, by omega⟩), ?_⟩
    intro p2
    refine ⟨_, _, rfl, ⟨_, rfl, by omega, by omega, giv_mdl hT⟩, ?_⟩
    try walk_at "dl"
    exact hK _ ⟨_, rfl⟩
end C
set_option Elab.async false
set_option maxRecDepth 100000
set_option maxHeartbeats 4000000
set_option linter.unusedVariables false
/-! each def keeps its promise; printed by gen_defs.py -/
namespace C
open PySem PySem.Spec PyProof.Rows L2 NdefX DL H19
theorem ok_check_integer_tables {P : Program} {w : World} {K : PySem.W.Frag} {mg : Str → Option Value} {base : Heap} {f : Addr} {fd : FuncData}  (F : FunD K "check_integer" "check_integer" (defArgs s_check_integer) (defBody s_check_integer) (defScope s_check_integer) [] [] f fd) (hm : mg "check_integer" = some (.ref f)) (T : Bt mg free) (Y : ErF K mg errs) (E_WrongKind : ErC P w K mg base "WrongKind") :
    FD P w K mg base 3 "check_integer" 2 W_check_integer_tables := by
  have sc : FnScope ["argument", "value"] ["argument", "value"] (defScope s_check_integer) := ⟨rfl, rfl, rfl, by decide +kernel, rfl, by decide +kernel, by decide +kernel⟩
  exact fd_ok mono_check_integer_tables F sc hm len_check_integer_tables (fun _ _ _ _ _ _ us hl => match us, hl with | [_, _], _ => rfl) (fun cdv A outer s H E so B hr tk => ⟨p_check_integer_tables, (have hu := hr.units; (dss_cons (ds_if (DW.db (dw_or (db_val (de_isiT (T := "bool") (n := "bool") rfl (T.of "isinstance") (T.of "bool") (by decide +kernel) isBool_ok (de_var 1))) (dw_or1 (db_not (db_val (de_isiT (T := "int") (n := "int") rfl (T.of "isinstance") (T.of "int") (by decide +kernel) isInt_ok (de_var 1))))))) (dss_cons (ds_raise E_WrongKind rfl (hr.mono (by decide)) rfl tk (de_var 0))
    dss_nil) dss_nil)
    dss_nil)), sat_check_integer_tables⟩)
theorem ok_check_between_tables {P : Program} {w : World} {K : PySem.W.Frag} {mg : Str → Option Value} {base : Heap} {f : Addr} {fd : FuncData}  (F : FunD K "check_between" "check_between" (defArgs s_check_between) (defBody s_check_between) (defScope s_check_between) [] [] f fd) (hm : mg "check_between" = some (.ref f)) (T : Bt mg free) (Y : ErF K mg errs) (E_OutOfRange : ErC P w K mg base "OutOfRange") (F_check_integer_tables : FD P w K mg base 3 "check_integer" 2 W_check_integer_tables) :
    FD P w K mg base 4 "check_between" 4 W_check_between_tables := by
  have sc : FnScope ["argument", "value", "least", "most"] ["argument", "value", "least", "most"] (defScope s_check_between) := ⟨rfl, rfl, rfl, by decide +kernel, rfl, by decide +kernel, by decide +kernel⟩
  exact fd_ok mono_check_between_tables F sc hm len_check_between_tables (fun _ _ _ _ _ _ us hl => match us, hl with | [_, _, _, _], _ => rfl) (fun cdv A outer s H E so B hr tk => ⟨p_check_between_tables, (have hu := hr.units; (dss_cons (ds_expr (de_call F_check_integer_tables (hr.mono (by decide)) rfl tk (da_cons (de_var 0) (da_cons (de_var 1) da_nil))))
    (dss_cons (ds_if (DW.db (dw_or (db_lt (de_var 1) (de_var 2)) (dw_or1 (db_gt (de_var 1) (de_var 3))))) (dss_cons (ds_raise E_OutOfRange rfl (hr.mono (by decide)) rfl tk (de_var 0))
    dss_nil) dss_nil)
    dss_nil))), sat_check_between_tables⟩)
theorem ok_check_width_tables {P : Program} {w : World} {K : PySem.W.Frag} {mg : Str → Option Value} {base : Heap} {f : Addr} {fd : FuncData} {t_MOST_WIDTH : Tok} (F : FunD K "check_width" "check_width" (defArgs s_check_width) (defBody s_check_width) (defScope s_check_width) [] [] f fd) (hm : mg "check_width" = some (.ref f)) (T : Bt mg free) (Y : ErF K mg errs) (m_MOST_WIDTH : mg "MOST_WIDTH" = some (.int 6 t_MOST_WIDTH)) (F_check_between_tables : FD P w K mg base 4 "check_between" 4 W_check_between_tables) :
    FD P w K mg base 5 "check_width" 1 W_check_width_tables := by
  have sc : FnScope ["width"] ["width"] (defScope s_check_width) := ⟨rfl, rfl, rfl, by decide +kernel, rfl, by decide +kernel, by decide +kernel⟩
  exact fd_ok mono_check_width_tables F sc hm len_check_width_tables (fun _ _ _ _ _ _ us hl => match us, hl with | [_], _ => rfl) (fun cdv A outer s H E so B hr tk => ⟨p_check_width_tables, (have hu := hr.units; (dss_cons (ds_expr (de_call F_check_between_tables (hr.mono (by decide)) rfl tk (da_cons de_str (da_cons (de_var 0) (da_cons de_int (da_cons (de_globI m_MOST_WIDTH) da_nil))))))
    dss_nil)), sat_check_width_tables⟩)
theorem ok_check_row_tables {P : Program} {w : World} {K : PySem.W.Frag} {mg : Str → Option Value} {base : Heap} {f : Addr} {fd : FuncData}  (F : FunD K "check_row" "check_row" (defArgs s_check_row_tables) (defBody s_check_row_tables) (defScope s_check_row_tables) [] [] f fd) (hm : mg "check_row_tables" = some (.ref f)) (T : Bt mg free) (Y : ErF K mg errs) (E_WrongSize : ErC P w K mg base "WrongSize") (E_WrongKind : ErC P w K mg base "WrongKind") :
    FD P w K mg base 3 "check_row_tables" 4 W_check_row_tables := by
  have sc : FnScope ["argument", "row", "least", "most"] ["argument", "row", "least", "most"] (defScope s_check_row_tables) := ⟨rfl, rfl, rfl, by decide +kernel, rfl, by decide +kernel, by decide +kernel⟩
  exact fdA_ok mono_check_row_tables F sc hm len_check_row_tables (fun _ _ _ _ _ _ us hl => match us, hl with | [_, _, _, _], _ => rfl) (fun cdv A outer s H E so B hr tk => ⟨p_check_row_tables, (have hu := hr.units; (dss_cons (ds_if (db_not (db_val (de_isi2 (T1 := "list") (T2 := "tuple") (n1 := "list") (n2 := "tuple") rfl (T.of "isinstance") (T.of "list") (by decide +kernel) (T.of "tuple") (by decide +kernel) isLst_ok isTup_ok (de_var 1)))) (dss_cons (ds_raise E_WrongKind rfl (hr.mono (by decide)) rfl tk (de_var 0))
    dss_nil) dss_nil)
    (dss_cons (ds_if (DW.db (dw_or (db_lt (de_len rfl (T.of "len") (da_cons (de_var 1) da_nil)) (de_var 2)) (dw_or1 (db_gt (de_len rfl (T.of "len") (da_cons (de_var 1) da_nil)) (de_var 3))))) (dss_cons (ds_raise E_WrongSize rfl (hr.mono (by decide)) rfl tk (de_var 0))
    dss_nil) dss_nil)
    dss_nil))), sat_check_row_tables⟩)
theorem ok_check_bits {P : Program} {w : World} {K : PySem.W.Frag} {mg : Str → Option Value} {base : Heap} {f : Addr} {fd : FuncData}  (F : FunD K "check_bits" "check_bits" (defArgs s_check_bits) (defBody s_check_bits) (defScope s_check_bits) [] [] f fd) (hm : mg "check_bits" = some (.ref f)) (T : Bt mg free) (Y : ErF K mg errs) (F_check_between_tables : FD P w K mg base 4 "check_between" 4 W_check_between_tables) (F_check_row_tables : FD P w K mg base 3 "check_row_tables" 4 W_check_row_tables) :
    FD P w K mg base 5 "check_bits" 3 W_check_bits := by
  have sc : FnScope ["bits", "least", "most", "bit"] ["bits", "least", "most"] (defScope s_check_bits) := ⟨rfl, rfl, rfl, by decide +kernel, rfl, by decide +kernel, by decide +kernel⟩
  exact fd_ok mono_check_bits F sc hm len_check_bits (fun _ _ _ _ _ _ us hl => match us, hl with | [_, _, _], _ => rfl) (fun cdv A outer s H E so B hr tk => ⟨p_check_bits, (have hu := hr.units; (dss_cons (ds_expr (de_call F_check_row_tables (hr.mono (by decide)) rfl tk (da_cons de_str (da_cons (de_var 0) (da_cons (de_var 1) (da_cons (de_var 2) da_nil))))))
    (dss_cons (ds_for (passes_of rfl) rfl (di_lt rfl (de_var 0)) (dg_name 3 sc.nd) (dss_cons (ds_expr (de_call F_check_between_tables (hr.mono (by decide)) rfl tk (da_cons de_str (da_cons (de_var 3) (da_cons de_int (da_cons de_int da_nil))))))
    dss_nil))
    dss_nil))), sat_check_bits⟩)
theorem ok_Table_init {P : Program} {w : World} {K : PySem.W.Frag} {mg : Str → Option Value} {base : Heap} {f : Addr} {fd : FuncData}  (F : FunD K "__init__" "Table.__init__" m_Table_init.params m_Table_init.body m_Table_init.scope [] [] f fd) (T : Bt mg free) (Y : ErF K mg errs) (hNo_held : NoAttr K (He.ga K "Table") "held") (hNo_wide : NoAttr K (He.ga K "Table") "wide") (F_check_bits : FD P w K mg base 5 "check_bits" 3 W_check_bits) (F_check_width_tables : FD P w K mg base 5 "check_width" 1 W_check_width_tables) (O_Table : OwnK K mg "Table") (hC : Cls K (He.ga K "Table")) (hM : Mk K (He.ga K "Table") f) :
    FDi P w K mg base 6 "Table" 2 W_Table_init := by
  have sc : FnScope ["self", "width", "bits"] ["self", "width", "bits"] m_Table_init.scope := ⟨rfl, rfl, rfl, by decide +kernel, rfl, by decide +kernel, by decide +kernel⟩
  exact fdi_ok2 (wb := p_Table_init K) mono_Table_init O_Table.mg hM F sc rfl len_Table_init (fun _ _ _ _ _ _ us hl => match us, hl with | [_, _, _], _ => rfl) (fun cdv A outer s H E hr tk so B H0 a dx h1 h2 => (have hu := hr.units; (dis_stm h1 (fun B2 H2 => (ds_expr (de_call F_check_width_tables (hr.mono (by decide)) rfl tk (da_cons (de_var 1) da_nil))))
    (dis_stm h1 (fun B2 H2 => (ds_expr (de_call F_check_bits (hr.mono (by decide)) rfl tk (da_cons (de_var 2) (da_cons (de_shl de_int (de_var 1)) (da_cons (de_shl de_int (de_var 1)) da_nil))))))
    (dis_fld hC hNo_wide h1 h2 (fun B2 H2 => (de_var 1))
    (dis_fld hC hNo_held h1 h2 (fun B2 H2 => (de_tuple rfl (T.of "tuple") (da_cons (de_var 2) da_nil)))
    dis_end)))))) (fun a ds Q E h => sat_Table_init K a ds Q E h)
theorem ok_Table_width {P : Program} {w : World} {K : PySem.W.Frag} {mg : Str → Option Value} {base : Heap} {f : Addr} {fd : FuncData}  {p : Addr} (F : FunD K "width" "Table.width" m_Table_width.params m_Table_width.body m_Table_width.scope [] [] f fd) (T : Bt mg free) (Y : ErF K mg errs) (hFl_wide : ∀ c, okT c = true → FldK K c "wide") (hC : Cls K (He.ga K "Table")) (hM : PropOf K (He.ga K "Table") "width" p f) :
    FDg P w K mg base 1 "Table" "width" W_Table_width := by
  have sc : FnScope ["self"] ["self"] m_Table_width.scope := ⟨rfl, rfl, rfl, by decide +kernel, rfl, by decide +kernel, by decide +kernel⟩
  exact fdg_ok mono_Table_width hC hM F sc rfl len_Table_width (fun _ _ _ _ _ _ us hl => match us, hl with | [_], _ => rfl) (fun cdv A outer s H E so B hr tk => ⟨p_Table_width, (have hu := hr.units; (dss_cons (ds_ret (de_fld okT hFl_wide rfl (de_var 0)))
    dss_nil)), sat_Table_width⟩)
theorem ok_Table_bits {P : Program} {w : World} {K : PySem.W.Frag} {mg : Str → Option Value} {base : Heap} {f : Addr} {fd : FuncData}  {p : Addr} (F : FunD K "bits" "Table.bits" m_Table_bits.params m_Table_bits.body m_Table_bits.scope [] [] f fd) (T : Bt mg free) (Y : ErF K mg errs) (hFl_held : ∀ c, okT c = true → FldK K c "held") (hC : Cls K (He.ga K "Table")) (hM : PropOf K (He.ga K "Table") "bits" p f) :
    FDg P w K mg base 1 "Table" "bits" W_Table_bits := by
  have sc : FnScope ["self"] ["self"] m_Table_bits.scope := ⟨rfl, rfl, rfl, by decide +kernel, rfl, by decide +kernel, by decide +kernel⟩
  exact fdg_ok mono_Table_bits hC hM F sc rfl len_Table_bits (fun _ _ _ _ _ _ us hl => match us, hl with | [_], _ => rfl) (fun cdv A outer s H E so B hr tk => ⟨p_Table_bits, (have hu := hr.units; (dss_cons (ds_ret (de_fld okT hFl_held rfl (de_var 0)))
    dss_nil)), sat_Table_bits⟩)
theorem ok_Table_signs {P : Program} {w : World} {K : PySem.W.Frag} {mg : Str → Option Value} {base : Heap} {f : Addr} {fd : FuncData}  (F : FunD K "signs" "Table.signs" m_Table_signs.params m_Table_signs.body m_Table_signs.scope [] [] f fd) (T : Bt mg free) (Y : ErF K mg errs) (hFl_held : ∀ c, okT c = true → FldK K c "held") (hC : Cls K (He.ga K "Table")) (hM : Meth K (He.ga K "Table") "signs" f ∧ PySem.W.fnIn K f = true) :
    FDm P w K mg base 1 "Table" "signs" 1 W_Table_signs := by
  have sc : FnScope ["self", "bit"] ["self"] m_Table_signs.scope := ⟨rfl, rfl, rfl, by decide +kernel, rfl, by decide +kernel, by decide +kernel⟩
  exact fdm_ok mono_Table_signs hC hM.1 F sc rfl len_Table_signs (fun _ _ _ _ _ _ us hl => match us, hl with | [_], _ => rfl) (fun cdv A outer s H E so B hr tk => ⟨p_Table_signs, (have hu := hr.units; (dss_cons (ds_ret (de_lcA 1 rfl sc.nd (di_tup rfl (de_fld okT hFl_held rfl (de_var 0))) (blkOk_of rfl) (fun _ _ _ _ _ => pg_name sc.nd rfl (by first | exact .inl rfl | exact .inr rfl)) (fun _ _ _ _ _ => (de_sub de_int (de_mul de_int (de_var 1))))))
    dss_nil)), sat_Table_signs⟩)
theorem ok_whole {P : Program} {w : World} {K : PySem.W.Frag} {mg : Str → Option Value} {base : Heap} {f : Addr} {fd : FuncData}  (F : FunD K "whole" "whole" (defArgs s_whole) (defBody s_whole) (defScope s_whole) [] [] f fd) (hm : mg "whole" = some (.ref f)) (T : Bt mg free) (Y : ErF K mg errs) (hIK : InsK K okI) :
    FD P w K mg base 1 "whole" 1 W_whole := by
  have sc : FnScope ["value"] ["value"] (defScope s_whole) := ⟨rfl, rfl, rfl, by decide +kernel, rfl, by decide +kernel, by decide +kernel⟩
  exact fd_ok mono_whole F sc hm len_whole (fun _ _ _ _ _ _ us hl => match us, hl with | [_], _ => rfl) (fun cdv A outer s H E so B hr tk => ⟨p_whole, (have hu := hr.units; (dss_cons (ds_ret (de_and (de_isiT (T := "int") (n := "int") rfl (T.of "isinstance") (T.of "int") (by decide +kernel) hIK.int (de_var 0)) (de_one (de_not (de_isiT (T := "bool") (n := "bool") rfl (T.of "isinstance") (T.of "bool") (by decide +kernel) hIK.bool (de_var 0))))))
    dss_nil)), sat_whole⟩)
theorem ok_check_table_shades {P : Program} {w : World} {K : PySem.W.Frag} {mg : Str → Option Value} {base : Heap} {f : Addr} {fd : FuncData}  (F : FunD K "check_table" "check_table" (defArgs s_check_table) (defBody s_check_table) (defScope s_check_table) [] [] f fd) (hm : mg "check_table" = some (.ref f)) (T : Bt mg free) (Y : ErF K mg errs) (O_Table : OwnK K mg "Table") (hIK : InsK K okI) (E_WrongKind : ErC P w K mg base "WrongKind") :
    FD P w K mg base 3 "check_table" 2 W_check_table_shades := by
  have sc : FnScope ["value", "argument"] ["value", "argument"] (defScope s_check_table) := ⟨rfl, rfl, rfl, by decide +kernel, rfl, by decide +kernel, by decide +kernel⟩
  exact fd_ok mono_check_table_shades F sc hm len_check_table_shades (fun _ _ _ _ _ _ us hl => match us, hl with | [_, _], _ => rfl) (fun cdv A outer s H E so B hr tk => ⟨p_check_table_shades, (have hu := hr.units; (dss_cons (ds_if (db_not (db_val (de_isiC (T := "Table") rfl (T.of "isinstance") O_Table.mg (hIK.cls O_Table rfl) (de_var 0)))) (dss_cons (ds_raise E_WrongKind rfl (hr.mono (by decide)) rfl tk (de_var 1))
    dss_nil) dss_nil)
    dss_nil)), sat_check_table_shades⟩)
theorem ok_check_row_shades {P : Program} {w : World} {K : PySem.W.Frag} {mg : Str → Option Value} {base : Heap} {f : Addr} {fd : FuncData}  (F : FunD K "check_row" "check_row" (defArgs s_check_row_shades) (defBody s_check_row_shades) (defScope s_check_row_shades) [] [] f fd) (hm : mg "check_row_shades" = some (.ref f)) (T : Bt mg free) (Y : ErF K mg errs) (hIK : InsK K okI) (E_WrongKind : ErC P w K mg base "WrongKind") :
    FD P w K mg base 3 "check_row_shades" 2 W_check_row_shades := by
  have sc : FnScope ["value", "argument"] ["value", "argument"] (defScope s_check_row_shades) := ⟨rfl, rfl, rfl, by decide +kernel, rfl, by decide +kernel, by decide +kernel⟩
  exact fdA_ok mono_check_row_shades F sc hm len_check_row_shades (fun _ _ _ _ _ _ us hl => match us, hl with | [_, _], _ => rfl) (fun cdv A outer s H E so B hr tk => ⟨p_check_row_shades, (have hu := hr.units; (dss_cons (ds_if (db_not (db_val (de_isi2 (T1 := "list") (T2 := "tuple") (n1 := "list") (n2 := "tuple") rfl (T.of "isinstance") (T.of "list") (by decide +kernel) (T.of "tuple") (by decide +kernel) hIK.lst hIK.tup (de_var 0)))) (dss_cons (ds_raise E_WrongKind rfl (hr.mono (by decide)) rfl tk (de_var 1))
    dss_nil) dss_nil)
    dss_nil)), sat_check_row_shades⟩)
theorem ok_check_field {P : Program} {w : World} {K : PySem.W.Frag} {mg : Str → Option Value} {base : Heap} {f : Addr} {fd : FuncData}  (F : FunD K "check_field" "check_field" (defArgs s_check_field) (defBody s_check_field) (defScope s_check_field) [] [] f fd) (hm : mg "check_field" = some (.ref f)) (T : Bt mg free) (Y : ErF K mg errs) (F_whole : FD P w K mg base 1 "whole" 1 W_whole) (E_WrongKind : ErC P w K mg base "WrongKind") (hTc_FIELD_LENGTHS : TupK K mg "FIELD_LENGTHS" [1, 2, 4, 8, 16, 32, 64]) (E_WrongSize : ErC P w K mg base "WrongSize") (F_check_row_shades : FD P w K mg base 3 "check_row_shades" 2 W_check_row_shades) :
    FD P w K mg base 4 "check_field" 2 W_check_field := by
  have sc : FnScope ["field", "argument", "item"] ["field", "argument"] (defScope s_check_field) := ⟨rfl, rfl, rfl, by decide +kernel, rfl, by decide +kernel, by decide +kernel⟩
  exact fd_ok mono_check_field F sc hm len_check_field (fun _ _ _ _ _ _ us hl => match us, hl with | [_, _], _ => rfl) (fun cdv A outer s H E so B hr tk => ⟨p_check_field, (have hu := hr.units; (dss_cons (ds_expr (de_call F_check_row_shades (hr.mono (by decide)) rfl tk (da_cons (de_var 0) (da_cons (de_var 1) da_nil))))
    (dss_cons (ds_if (db_notin rfl (de_len rfl (T.of "len") (da_cons (de_var 0) da_nil)) (de_globT hTc_FIELD_LENGTHS rfl)) (dss_cons (ds_raise E_WrongSize rfl (hr.mono (by decide)) rfl tk (de_var 1))
    dss_nil) dss_nil)
    (dss_cons (ds_for (passes_of rfl) rfl (di_lt rfl (de_var 0)) (dg_name 2 sc.nd) (dss_cons (ds_if (db_not (db_val (de_call F_whole (hr.mono (by decide)) rfl tk (da_cons (de_var 2) da_nil)))) (dss_cons (ds_raise E_WrongKind rfl (hr.mono (by decide)) rfl tk (de_var 1))
    dss_nil) dss_nil)
    dss_nil))
    dss_nil)))), sat_check_field⟩)
theorem ok_width_of_length {P : Program} {w : World} {K : PySem.W.Frag} {mg : Str → Option Value} {base : Heap} {f : Addr} {fd : FuncData}  (F : FunD K "width_of_length" "width_of_length" (defArgs s_width_of_length) (defBody s_width_of_length) (defScope s_width_of_length) [] [] f fd) (hm : mg "width_of_length" = some (.ref f)) (T : Bt mg free) (Y : ErF K mg errs)  :
    FD P w K mg base 1 "width_of_length" 1 W_width_of_length := by
  have sc : FnScope ["length"] ["length"] (defScope s_width_of_length) := ⟨rfl, rfl, rfl, by decide +kernel, rfl, by decide +kernel, by decide +kernel⟩
  exact fd_ok mono_width_of_length F sc hm len_width_of_length (fun _ _ _ _ _ _ us hl => match us, hl with | [_], _ => rfl) (fun cdv A outer s H E so B hr tk => ⟨p_width_of_length, (have hu := hr.units; (dss_cons (ds_ret (de_sub (de_bits (de_var 0)) de_int))
    dss_nil)), sat_width_of_length⟩)
theorem ok_parity_signs {P : Program} {w : World} {K : PySem.W.Frag} {mg : Str → Option Value} {base : Heap} {f : Addr} {fd : FuncData}  (F : FunD K "parity_signs" "parity_signs" (defArgs s_parity_signs) (defBody s_parity_signs) (defScope s_parity_signs) [] [] f fd) (hm : mg "parity_signs" = some (.ref f)) (T : Bt mg free) (Y : ErF K mg errs)  :
    FD P w K mg base 1 "parity_signs" 1 W_parity_signs := by
  have sc : FnScope ["width", "marks", "place", "mark"] ["width"] (defScope s_parity_signs) := ⟨rfl, rfl, rfl, by decide +kernel, rfl, by decide +kernel, by decide +kernel⟩
  exact fd_ok mono_parity_signs F sc hm len_parity_signs (fun _ _ _ _ _ _ us hl => match us, hl with | [_], _ => rfl) (fun cdv A outer s H E so B hr tk => ⟨p_parity_signs, (have hu := hr.units; (dss_cons (ds_set 1 sc.nd (de_lst (da_cons de_int da_nil)))
    (dss_cons (ds_for (passes_of rfl) rfl (di_range1 (T.of "range") (da_cons (de_var 0) da_nil)) (dg_name 2 sc.nd) (dss_cons (ds_set 1 sc.nd (de_addA (de_var 1) (de_lcA 3 rfl sc.nd (di_list rfl (de_var 1)) (blkOk_of rfl) (fun _ _ _ _ _ => pg_name sc.nd rfl (by first | exact .inl rfl | exact .inr rfl)) (fun _ _ _ _ _ => (de_neg (de_var 3))))))
    dss_nil))
    (dss_cons (ds_ret (de_var 1))
    dss_nil)))), sat_parity_signs⟩)
theorem ok_steppedO {P : Program} {w : World} {K : PySem.W.Frag} {mg : Str → Option Value} {base : Heap} {f : Addr} {fd : FuncData}  (F : FunD K "stepped" "stepped" (defArgs s_stepped) (defBody s_stepped) (defScope s_stepped) [] [] f fd) (hm : mg "stepped" = some (.ref f)) (T : Bt mg free) (Y : ErF K mg errs)  :
    FD P w K mg base 1 "stepped" 2 W_steppedO := by
  have sc : FnScope ["row", "place", "gap", "made", "at"] ["row", "place"] (defScope s_stepped) := ⟨rfl, rfl, rfl, by decide +kernel, rfl, by decide +kernel, by decide +kernel⟩
  exact fd_ok mono_steppedO F sc hm len_steppedO (fun _ _ _ _ _ _ us hl => match us, hl with | [_, _], _ => rfl) (fun cdv A outer s H E so B hr tk => ⟨p_steppedO, (have hu := hr.units; (dss_cons (ds_set 2 sc.nd (de_shl de_int (de_var 1)))
    (dss_cons (ds_set 3 sc.nd (de_lst da_nil))
    (dss_cons (ds_for (passes_of rfl) rfl (di_range1 (T.of "range") (da_cons (de_len rfl (T.of "len") (da_cons (de_var 0) da_nil)) da_nil)) (dg_name 4 sc.nd) (dss_cons (ds_if (db_truth rfl (de_and2 (de_var 4) (de_var 2))) (dss_cons (ds_append 3 rfl (de_sub (de_ix rfl (de_var 0) (de_xor2 (de_var 4) (de_var 2))) (de_ix rfl (de_var 0) (de_var 4))))
    dss_nil) (dss_cons (ds_append 3 rfl (de_addA (de_ix rfl (de_var 0) (de_var 4)) (de_ix rfl (de_var 0) (de_or2 (de_var 4) (de_var 2)))))
    dss_nil))
    dss_nil))
    (dss_cons (ds_ret (de_mv 3))
    dss_nil))))), sat_steppedO⟩)
theorem ok_all_stepsO {P : Program} {w : World} {K : PySem.W.Frag} {mg : Str → Option Value} {base : Heap} {f : Addr} {fd : FuncData}  (F : FunD K "all_steps" "all_steps" (defArgs s_all_steps) (defBody s_all_steps) (defScope s_all_steps) [] [] f fd) (hm : mg "all_steps" = some (.ref f)) (T : Bt mg free) (Y : ErF K mg errs) (F_width_of_length : FD P w K mg base 1 "width_of_length" 1 W_width_of_length) (F_steppedO : FD P w K mg base 1 "stepped" 2 W_steppedO) :
    FD P w K mg base 2 "all_steps" 1 W_all_stepsO := by
  have sc : FnScope ["row", "made", "place"] ["row"] (defScope s_all_steps) := ⟨rfl, rfl, rfl, by decide +kernel, rfl, by decide +kernel, by decide +kernel⟩
  exact fd_ok mono_all_stepsO F sc hm len_all_stepsO (fun _ _ _ _ _ _ us hl => match us, hl with | [_], _ => rfl) (fun cdv A outer s H E so B hr tk => ⟨p_all_stepsO, (have hu := hr.units; (dss_cons (ds_set 1 sc.nd (de_list rfl (T.of "list") (da_cons (de_var 0) da_nil)))
    (dss_cons (ds_for (passes_of rfl) rfl (di_range1 (T.of "range") (da_cons (de_call F_width_of_length (hr.mono (by decide)) rfl tk (da_cons (de_len rfl (T.of "len") (da_cons (de_var 0) da_nil)) da_nil)) da_nil)) (dg_name 2 sc.nd) (dss_cons (ds_set 1 sc.nd (de_call F_steppedO (hr.mono (by decide)) rfl tk (da_cons (de_var 1) (da_cons (de_var 2) da_nil))))
    dss_nil))
    (dss_cons (ds_ret (de_mv 1))
    dss_nil)))), sat_all_stepsO⟩)
theorem ok_summed {P : Program} {w : World} {K : PySem.W.Frag} {mg : Str → Option Value} {base : Heap} {f : Addr} {fd : FuncData}  (F : FunD K "summed" "summed" (defArgs s_summed) (defBody s_summed) (defScope s_summed) [] [] f fd) (hm : mg "summed" = some (.ref f)) (T : Bt mg free) (Y : ErF K mg errs)  :
    FD P w K mg base 1 "summed" 3 W_summed := by
  have sc : FnScope ["signs", "marks", "chosen", "word"] ["signs", "marks", "chosen"] (defScope s_summed) := ⟨rfl, rfl, rfl, by decide +kernel, rfl, by decide +kernel, by decide +kernel⟩
  exact fd_ok mono_summed F sc hm len_summed (fun _ _ _ _ _ _ us hl => match us, hl with | [_, _, _], _ => rfl) (fun cdv A outer s H E so B hr tk => ⟨p_summed, (have hu := hr.units; (dss_cons (ds_ret (de_sum rfl rfl (T.of "sum") (da_cons (de_lcA 3 rfl sc.nd (di_range1 (T.of "range") (da_cons (de_len rfl (T.of "len") (da_cons (de_var 0) da_nil)) da_nil)) (blkOk_of rfl) (fun _ _ _ _ _ => pg_name sc.nd rfl (by first | exact .inl rfl | exact .inr rfl)) (fun _ _ _ _ _ => (de_mul (de_ix rfl (de_var 0) (de_var 3)) (de_ix rfl (de_var 1) (de_and2 (de_var 3) (de_var 2)))))) da_nil)))
    dss_nil)), sat_summed⟩)
theorem okK_plain_scores_table {P : Program} {w : World} {K : PySem.W.Frag} {mg : Str → Option Value} {base : Heap} {f : Addr} {fd : FuncData}  (F : FunD K "plain_scores" "plain_scores" (defArgs s_plain_scores) (defBody s_plain_scores) (defScope s_plain_scores) [] [] f fd) (hm : mg "plain_scores" = some (.ref f)) (T : Bt mg free) (Y : ErF K mg errs) (F_summed : FD P w K mg base 1 "summed" 3 W_summed) (G_Table_width : FDg P w K mg base 1 "Table" "width" W_Table_width) (F_parity_signs : FD P w K mg base 1 "parity_signs" 1 W_parity_signs) (M_Table_signs : FDm P w K mg base 1 "Table" "signs" 1 W_Table_signs) (F_check_table_shades : FD P w K mg base 3 "check_table" 2 W_check_table_shades) :
    FDK P w K mg base 4 "plain_scores" 1 ["table"] [0] W_plain_scores := by
  have sc : FnScope ["table", "signs", "marks", "chosen"] ["table"] (defScope s_plain_scores) := ⟨rfl, rfl, rfl, by decide +kernel, rfl, by decide +kernel, by decide +kernel⟩
  exact fdk_ok mono_plain_scores F sc hm len_plain_scores (fun _ _ _ _ _ _ us hl => match us, hl with | [_], _ => rfl) (fun cdv A outer s H E so B hr tk => ⟨p_plain_scores, (have hu := hr.units; (dss_cons (ds_expr (de_call F_check_table_shades (hr.mono (by decide)) rfl tk (da_cons (de_var 0) (da_cons de_str da_nil))))
    (dss_cons (ds_set 1 sc.nd (de_meth0 M_Table_signs (hr.mono (by decide)) rfl tk (fun _ _ => rfl) (de_var 0)))
    (dss_cons (ds_set 2 sc.nd (de_call F_parity_signs (hr.mono (by decide)) rfl tk (da_cons (de_prop G_Table_width (hr.mono (by decide)) rfl (de_var 0)) da_nil)))
    (dss_cons (ds_ret (de_lcA 3 rfl sc.nd (di_range1 (T.of "range") (da_cons (de_len rfl (T.of "len") (da_cons (de_var 1) da_nil)) da_nil)) (blkOk_of rfl) (fun _ _ _ _ _ => pg_name sc.nd rfl (by first | exact .inl rfl | exact .inr rfl)) (fun _ _ _ _ _ => (de_call F_summed (hr.mono (by decide)) rfl takes_no (da_cons (de_var 1) (da_cons (de_var 2) (da_cons (de_var 3) da_nil)))))))
    dss_nil))))), sat_plain_scores⟩)
theorem ok_plain_scores {P : Program} {w : World} {K : PySem.W.Frag} {mg : Str → Option Value} {base : Heap} {f : Addr} {fd : FuncData}  (F : FunD K "plain_scores" "plain_scores" (defArgs s_plain_scores) (defBody s_plain_scores) (defScope s_plain_scores) [] [] f fd) (hm : mg "plain_scores" = some (.ref f)) (T : Bt mg free) (Y : ErF K mg errs) (F_summed : FD P w K mg base 1 "summed" 3 W_summed) (G_Table_width : FDg P w K mg base 1 "Table" "width" W_Table_width) (F_parity_signs : FD P w K mg base 1 "parity_signs" 1 W_parity_signs) (M_Table_signs : FDm P w K mg base 1 "Table" "signs" 1 W_Table_signs) (F_check_table_shades : FD P w K mg base 3 "check_table" 2 W_check_table_shades) :
    FD P w K mg base 4 "plain_scores" 1 W_plain_scores := by
  have sc : FnScope ["table", "signs", "marks", "chosen"] ["table"] (defScope s_plain_scores) := ⟨rfl, rfl, rfl, by decide +kernel, rfl, by decide +kernel, by decide +kernel⟩
  exact fd_ok mono_plain_scores F sc hm len_plain_scores (fun _ _ _ _ _ _ us hl => match us, hl with | [_], _ => rfl) (fun cdv A outer s H E so B hr tk => ⟨p_plain_scores, (have hu := hr.units; (dss_cons (ds_expr (de_call F_check_table_shades (hr.mono (by decide)) rfl tk (da_cons (de_var 0) (da_cons de_str da_nil))))
    (dss_cons (ds_set 1 sc.nd (de_meth0 M_Table_signs (hr.mono (by decide)) rfl tk (fun _ _ => rfl) (de_var 0)))
    (dss_cons (ds_set 2 sc.nd (de_call F_parity_signs (hr.mono (by decide)) rfl tk (da_cons (de_prop G_Table_width (hr.mono (by decide)) rfl (de_var 0)) da_nil)))
    (dss_cons (ds_ret (de_lcA 3 rfl sc.nd (di_range1 (T.of "range") (da_cons (de_len rfl (T.of "len") (da_cons (de_var 1) da_nil)) da_nil)) (blkOk_of rfl) (fun _ _ _ _ _ => pg_name sc.nd rfl (by first | exact .inl rfl | exact .inr rfl)) (fun _ _ _ _ _ => (de_call F_summed (hr.mono (by decide)) rfl takes_no (da_cons (de_var 1) (da_cons (de_var 2) (da_cons (de_var 3) da_nil)))))))
    dss_nil))))), sat_plain_scores⟩)
theorem okK_scoresO_table {P : Program} {w : World} {K : PySem.W.Frag} {mg : Str → Option Value} {base : Heap} {f : Addr} {fd : FuncData}  (F : FunD K "scores" "scores" (defArgs s_scores) (defBody s_scores) (defScope s_scores) [] [] f fd) (hm : mg "scores" = some (.ref f)) (T : Bt mg free) (Y : ErF K mg errs) (M_Table_signs : FDm P w K mg base 1 "Table" "signs" 1 W_Table_signs) (F_all_stepsO : FD P w K mg base 2 "all_steps" 1 W_all_stepsO) (F_check_table_shades : FD P w K mg base 3 "check_table" 2 W_check_table_shades) :
    FDK P w K mg base 4 "scores" 1 ["table"] [0] W_scoresO := by
  have sc : FnScope ["table"] ["table"] (defScope s_scores) := ⟨rfl, rfl, rfl, by decide +kernel, rfl, by decide +kernel, by decide +kernel⟩
  exact fdk_ok mono_scoresO F sc hm len_scoresO (fun _ _ _ _ _ _ us hl => match us, hl with | [_], _ => rfl) (fun cdv A outer s H E so B hr tk => ⟨p_scoresO, (have hu := hr.units; (dss_cons (ds_expr (de_call F_check_table_shades (hr.mono (by decide)) rfl tk (da_cons (de_var 0) (da_cons de_str da_nil))))
    (dss_cons (ds_ret (de_call F_all_stepsO (hr.mono (by decide)) rfl tk (da_cons (de_meth0 M_Table_signs (hr.mono (by decide)) rfl tk (fun _ _ => rfl) (de_var 0)) da_nil)))
    dss_nil))), sat_scoresO⟩)
theorem ok_scoresO {P : Program} {w : World} {K : PySem.W.Frag} {mg : Str → Option Value} {base : Heap} {f : Addr} {fd : FuncData}  (F : FunD K "scores" "scores" (defArgs s_scores) (defBody s_scores) (defScope s_scores) [] [] f fd) (hm : mg "scores" = some (.ref f)) (T : Bt mg free) (Y : ErF K mg errs) (M_Table_signs : FDm P w K mg base 1 "Table" "signs" 1 W_Table_signs) (F_all_stepsO : FD P w K mg base 2 "all_steps" 1 W_all_stepsO) (F_check_table_shades : FD P w K mg base 3 "check_table" 2 W_check_table_shades) :
    FD P w K mg base 4 "scores" 1 W_scoresO := by
  have sc : FnScope ["table"] ["table"] (defScope s_scores) := ⟨rfl, rfl, rfl, by decide +kernel, rfl, by decide +kernel, by decide +kernel⟩
  exact fd_ok mono_scoresO F sc hm len_scoresO (fun _ _ _ _ _ _ us hl => match us, hl with | [_], _ => rfl) (fun cdv A outer s H E so B hr tk => ⟨p_scoresO, (have hu := hr.units; (dss_cons (ds_expr (de_call F_check_table_shades (hr.mono (by decide)) rfl tk (da_cons (de_var 0) (da_cons de_str da_nil))))
    (dss_cons (ds_ret (de_call F_all_stepsO (hr.mono (by decide)) rfl tk (da_cons (de_meth0 M_Table_signs (hr.mono (by decide)) rfl tk (fun _ _ => rfl) (de_var 0)) da_nil)))
    dss_nil))), sat_scoresO⟩)
theorem okK_quick_field_field {P : Program} {w : World} {K : PySem.W.Frag} {mg : Str → Option Value} {base : Heap} {f : Addr} {fd : FuncData}  (F : FunD K "quick_field" "quick_field" (defArgs s_quick_field) (defBody s_quick_field) (defScope s_quick_field) [] [] f fd) (hm : mg "quick_field" = some (.ref f)) (T : Bt mg free) (Y : ErF K mg errs) (F_all_stepsO : FD P w K mg base 2 "all_steps" 1 W_all_stepsO) (F_check_field : FD P w K mg base 4 "check_field" 2 W_check_field) :
    FDK P w K mg base 5 "quick_field" 1 ["field"] [0] W_quick_field := by
  have sc : FnScope ["field"] ["field"] (defScope s_quick_field) := ⟨rfl, rfl, rfl, by decide +kernel, rfl, by decide +kernel, by decide +kernel⟩
  exact fdk_ok mono_quick_field F sc hm len_quick_field (fun _ _ _ _ _ _ us hl => match us, hl with | [_], _ => rfl) (fun cdv A outer s H E so B hr tk => ⟨p_quick_field, (have hu := hr.units; (dss_cons (ds_expr (de_call F_check_field (hr.mono (by decide)) rfl tk (da_cons (de_var 0) (da_cons de_str da_nil))))
    (dss_cons (ds_ret (de_call F_all_stepsO (hr.mono (by decide)) rfl tk (da_cons (de_var 0) da_nil)))
    dss_nil))), sat_quick_field⟩)
theorem ok_quick_field {P : Program} {w : World} {K : PySem.W.Frag} {mg : Str → Option Value} {base : Heap} {f : Addr} {fd : FuncData}  (F : FunD K "quick_field" "quick_field" (defArgs s_quick_field) (defBody s_quick_field) (defScope s_quick_field) [] [] f fd) (hm : mg "quick_field" = some (.ref f)) (T : Bt mg free) (Y : ErF K mg errs) (F_all_stepsO : FD P w K mg base 2 "all_steps" 1 W_all_stepsO) (F_check_field : FD P w K mg base 4 "check_field" 2 W_check_field) :
    FD P w K mg base 5 "quick_field" 1 W_quick_field := by
  have sc : FnScope ["field"] ["field"] (defScope s_quick_field) := ⟨rfl, rfl, rfl, by decide +kernel, rfl, by decide +kernel, by decide +kernel⟩
  exact fd_ok mono_quick_field F sc hm len_quick_field (fun _ _ _ _ _ _ us hl => match us, hl with | [_], _ => rfl) (fun cdv A outer s H E so B hr tk => ⟨p_quick_field, (have hu := hr.units; (dss_cons (ds_expr (de_call F_check_field (hr.mono (by decide)) rfl tk (da_cons (de_var 0) (da_cons de_str da_nil))))
    (dss_cons (ds_ret (de_call F_all_stepsO (hr.mono (by decide)) rfl tk (da_cons (de_var 0) da_nil)))
    dss_nil))), sat_quick_field⟩)
theorem ok_law_mixed {P : Program} {w : World} {K : PySem.W.Frag} {mg : Str → Option Value} {base : Heap} {f : Addr} {fd : FuncData}  (F : FunD K "_law_mixed" "_law_mixed" (defArgs s_law_mixed) (defBody s_law_mixed) (defScope s_law_mixed) [] [] f fd) (hm : mg "_law_mixed" = some (.ref f)) (T : Bt mg free) (Y : ErF K mg errs)  :
    FD P w K mg base 1 "_law_mixed" 2 W_law_mixed := by
  have sc : FnScope ["_law_cell", "_law_nth", "_law_low", "_law_high"] ["_law_cell", "_law_nth"] (defScope s_law_mixed) := ⟨rfl, rfl, rfl, by decide +kernel, rfl, by decide +kernel, by decide +kernel⟩
  exact fd_ok mono_law_mixed F sc hm len_law_mixed (fun _ _ _ _ _ _ us hl => match us, hl with | [_, _], _ => rfl) (fun cdv A outer s H E so B hr tk => ⟨p_law_mixed, (have hu := hr.units; (dss_cons (ds_set 2 sc.nd (de_mod (de_intOf (T.of "int") (da_cons (de_addA (de_addA (de_mul (de_mod (de_intOf (T.of "int") (da_cons (de_var 0) da_nil)) de_int) de_int) (de_mul (de_var 1) de_int)) de_int) da_nil)) de_int))
    (dss_cons (ds_set 3 sc.nd (de_mod (de_intOf (T.of "int") (da_cons (de_addA (de_addA (de_mul (de_var 2) (de_var 2)) (de_mul (de_var 1) de_int)) de_int) da_nil)) de_int))
    (dss_cons (ds_ret (de_mod (de_intOf (T.of "int") (da_cons (de_addA (de_addA (de_mul (de_fdiv (de_var 3) de_int) de_int) (de_mul (de_mod (de_intOf (T.of "int") (da_cons (de_var 3) da_nil)) de_int) de_int)) (de_mod (de_intOf (T.of "int") (da_cons (de_var 2) da_nil)) de_int)) da_nil)) de_int))
    dss_nil)))), sat_law_mixed⟩)
theorem ok_law_wide {P : Program} {w : World} {K : PySem.W.Frag} {mg : Str → Option Value} {base : Heap} {f : Addr} {fd : FuncData}  (F : FunD K "_law_wide" "_law_wide" (defArgs s_law_wide) (defBody s_law_wide) (defScope s_law_wide) [] [] f fd) (hm : mg "_law_wide" = some (.ref f)) (T : Bt mg free) (Y : ErF K mg errs) (F_law_mixed : FD P w K mg base 1 "_law_mixed" 2 W_law_mixed) :
    FD P w K mg base 2 "_law_wide" 3 W_law_wide := by
  have sc : FnScope ["_law_cell", "_law_nth", "_law_many", "_law_told", "_law_k"] ["_law_cell", "_law_nth", "_law_many"] (defScope s_law_wide) := ⟨rfl, rfl, rfl, by decide +kernel, rfl, by decide +kernel, by decide +kernel⟩
  exact fd_ok mono_law_wide F sc hm len_law_wide (fun _ _ _ _ _ _ us hl => match us, hl with | [_, _, _], _ => rfl) (fun cdv A outer s H E so B hr tk => ⟨p_law_wide, (have hu := hr.units; (dss_cons (ds_set 3 sc.nd (de_call F_law_mixed (hr.mono (by decide)) rfl tk (da_cons (de_var 0) (da_cons (de_var 1) da_nil))))
    (dss_cons (ds_for (passes_of rfl) rfl (di_range1 (T.of "range") (da_cons (de_fdiv (de_bits (de_var 2)) de_int) da_nil)) (dg_name 4 sc.nd) (dss_cons (ds_set 3 sc.nd (de_addA (de_mul (de_var 3) de_int) (de_call F_law_mixed (hr.mono (by decide)) rfl tk (da_cons (de_var 0) (da_cons (de_addA (de_var 1) (de_mul de_int (de_addA (de_var 4) de_int))) da_nil)))))
    dss_nil))
    (dss_cons (ds_ret (de_mod (de_intOf (T.of "int") (da_cons (de_var 3) da_nil)) (de_var 2)))
    dss_nil)))), sat_law_wide⟩)
theorem ok_law_store {P : Program} {w : World} {K : PySem.W.Frag} {mg : Str → Option Value} {base : Heap} {f : Addr} {fd : FuncData}  (F : FunD K "_law_store" "_law_store" (defArgs s_law_store) (defBody s_law_store) (defScope s_law_store) [] [] f fd) (hm : mg "_law_store" = some (.ref f)) (T : Bt mg free) (Y : ErF K mg errs)  :
    FD P w K mg base 1 "_law_store" 1 W_law_store := by
  have sc : FnScope ["_law_script", "_law_mixture", "_law_cell"] ["_law_script"] (defScope s_law_store) := ⟨rfl, rfl, rfl, by decide +kernel, rfl, by decide +kernel, by decide +kernel⟩
  exact fd_ok mono_law_store F sc hm len_law_store (fun _ _ _ _ _ _ us hl => match us, hl with | [_], _ => rfl) (fun cdv A outer s H E so B hr tk => ⟨p_law_store, (have hu := hr.units; (dss_cons (ds_set 1 sc.nd de_int)
    (dss_cons (ds_for (passes_of rfl) rfl (di_scr rfl (de_var 0)) (dg_name 2 sc.nd) (dss_cons (ds_set 1 sc.nd (de_mod (de_intOf (T.of "int") (da_cons (de_addA (de_addA (de_mul (de_var 1) de_int) (de_mod (de_intOf (T.of "int") (da_cons (de_var 2) da_nil)) de_int)) de_int) da_nil)) de_int))
    dss_nil))
    (dss_cons (ds_ret (de_lst (da_cons (de_list rfl (T.of "list") (da_cons (de_var 0) da_nil)) (da_cons de_int (da_cons de_int (da_cons (de_var 1) (da_cons de_int da_nil)))))))
    dss_nil)))), sat_law_store⟩)
theorem ok_law_take {P : Program} {w : World} {K : PySem.W.Frag} {mg : Str → Option Value} {base : Heap} {f : Addr} {fd : FuncData}  (F : FunD K "_law_take" "_law_take" (defArgs s_law_take) (defBody s_law_take) (defScope s_law_take) [] [] f fd) (hm : mg "_law_take" = some (.ref f)) (T : Bt mg free) (Y : ErF K mg errs) (F_law_wide : FD P w K mg base 2 "_law_wide" 3 W_law_wide) :
    FD P w K mg base 3 "_law_take" 2 W_law_take := by
  have sc : FnScope ["_law_store_here", "_law_many", "_law_cell", "_law_told"] ["_law_store_here", "_law_many"] (defScope s_law_take) := ⟨rfl, rfl, rfl, by decide +kernel, rfl, by decide +kernel, by decide +kernel⟩
  exact fd_sto mono_law_take F sc hm rfl (by decide) sto_law_take (fun _ _ _ _ _ _ us hl => match us, hl with | [_, _], _ => rfl) (fun cdv A outer s H E G g1 g2 hr tk => by
    obtain ⟨K1, so, B, H1, E1⟩ := G
    cases g1; cases g2
    exact ⟨p_law_take, (have hu := hr.units; (dss_cons (ds_if (db_lt (de_var 1) de_int) (dss_cons (ds_ret de_int)
    dss_nil) dss_nil)
    (dss_cons (ds_setix 0 rfl (de_addA (de_ixO 0 rfl de_int) de_int) de_int)
    (dss_cons (ds_if (DW.db (dw_and (db_eq hu rfl (de_ixO 0 rfl de_int) de_int) (dw_and1 (db_lt (de_ixO 0 rfl de_int) (de_len rfl (T.of "len") (da_cons (de_ixO 0 rfl de_int) da_nil)))))) (dss_cons (ds_set 2 sc.nd (de_intOf (T.of "int") (da_cons (de_ix rfl (de_ixO 0 rfl de_int) (de_ixO 0 rfl de_int)) da_nil)))
    (dss_cons (ds_setix 0 rfl (de_addA (de_ixO 0 rfl de_int) de_int) de_int)
    (dss_cons (ds_if (db_lt (de_var 2) (de_pow de_int de_int)) (dss_cons (ds_ret (de_call F_law_wide (hr.mono (by decide)) rfl tk (da_cons (de_var 2) (da_cons (de_ixO 0 rfl de_int) (da_cons (de_var 1) da_nil)))))
    dss_nil) dss_nil)
    (dss_cons (ds_setix 0 rfl (de_var 2) de_int)
    dss_nil)))) dss_nil)
    (dss_cons (ds_if (db_gt (de_ixO 0 rfl de_int) de_int) (dss_cons (ds_set 3 sc.nd (de_mod (de_intOf (T.of "int") (da_cons (de_ixO 0 rfl de_int) da_nil)) (de_var 1)))
    (dss_cons (ds_setix 0 rfl (de_fdiv (de_intOf (T.of "int") (da_cons (de_ixO 0 rfl de_int) da_nil)) (de_var 1)) de_int)
    (dss_cons (ds_ret (de_var 3))
    dss_nil))) dss_nil)
    (dss_cons (ds_ret (de_call F_law_wide (hr.mono (by decide)) rfl tk (da_cons (de_ixO 0 rfl de_int) (da_cons (de_ixO 0 rfl de_int) (da_cons (de_var 1) da_nil)))))
    dss_nil)))))), sat_law_take⟩)
theorem ok_law_near {P : Program} {w : World} {K : PySem.W.Frag} {mg : Str → Option Value} {base : Heap} {f : Addr} {fd : FuncData}  (F : FunD K "_law_near" "_law_near" (defArgs s_law_near) (defBody s_law_near) (defScope s_law_near) [] [] f fd) (hm : mg "_law_near" = some (.ref f)) (T : Bt mg free) (Y : ErF K mg errs) (F_law_take : FD P w K mg base 3 "_law_take" 2 W_law_take) :
    FD P w K mg base 4 "_law_near" 3 W_law_near := by
  have sc : FnScope ["_law_store_here", "_law_low", "_law_high", "_law_kind"] ["_law_store_here", "_law_low", "_law_high"] (defScope s_law_near) := ⟨rfl, rfl, rfl, by decide +kernel, rfl, by decide +kernel, by decide +kernel⟩
  exact fd_ok mono_law_near F sc hm len_law_near (fun _ _ _ _ _ _ us hl => match us, hl with | [_, _, _], _ => rfl) (fun cdv A outer s H E so B hr tk => ⟨p_law_near, (have hu := hr.units; (dss_cons (ds_set 3 sc.nd (de_call F_law_take (hr.mono (by decide)) rfl tk (da_cons (de_var 0) (da_cons de_int da_nil))))
    (dss_cons (ds_if (db_lt (de_var 3) de_int) (dss_cons (ds_ret (de_ix rfl (de_lst (da_cons (de_var 1) (da_cons (de_var 2) (da_cons (de_min rfl (T.of "min") (da_cons (de_addA (de_var 1) de_int) (da_cons (de_var 2) da_nil))) (da_cons (de_max rfl (T.of "max") (da_cons (de_sub (de_var 2) de_int) (da_cons (de_var 1) da_nil))) da_nil))))) (de_var 3)))
    dss_nil) dss_nil)
    (dss_cons (ds_ret (de_addA (de_var 1) (de_call F_law_take (hr.mono (by decide)) rfl tk (da_cons (de_var 0) (da_cons (de_addA (de_sub (de_var 2) (de_var 1)) de_int) da_nil)))))
    dss_nil)))), sat_law_near⟩)
theorem ok_law_is_integer {P : Program} {w : World} {K : PySem.W.Frag} {mg : Str → Option Value} {base : Heap} {f : Addr} {fd : FuncData}  (F : FunD K "_law_is_integer" "_law_is_integer" (defArgs s_law_is_integer) (defBody s_law_is_integer) (defScope s_law_is_integer) [] [] f fd) (hm : mg "_law_is_integer" = some (.ref f)) (T : Bt mg free) (Y : ErF K mg errs)  :
    FD P w K mg base 1 "_law_is_integer" 1 W_law_is_integer := by
  have sc : FnScope ["_law_given"] ["_law_given"] (defScope s_law_is_integer) := ⟨rfl, rfl, rfl, by decide +kernel, rfl, by decide +kernel, by decide +kernel⟩
  exact fd_ok mono_law_is_integer F sc hm len_law_is_integer (fun _ _ _ _ _ _ us hl => match us, hl with | [_], _ => rfl) (fun cdv A outer s H E so B hr tk => ⟨p_law_is_integer, (have hu := hr.units; (dss_cons (ds_ret (de_and (de_isiT (T := "int") (n := "int") rfl (T.of "isinstance") (T.of "int") (by decide +kernel) isInt_ok (de_var 0)) (de_one (de_not (de_isiT (T := "bool") (n := "bool") rfl (T.of "isinstance") (T.of "bool") (by decide +kernel) isBool_ok (de_var 0))))))
    dss_nil)), sat_law_is_integer⟩)
theorem ok_law_sameD {P : Program} {w : World} {K : PySem.W.Frag} {mg : Str → Option Value} {base : Heap} {f : Addr} {fd : FuncData}  {n k : Nat} (F : FunD K "_law_same" "_law_same" (defArgs s_law_same) (defBody s_law_same) (defScope s_law_same) [] [] f fd) (hm : mg "_law_same" = some (.ref f)) (T : Bt mg free) (Y : ErF K mg errs) (F_law_sameD : FD P w K mg base k "_law_same" 2 (W_law_sameD n)) :
    FD P w K mg base (k + 1) "_law_same" 2 (W_law_sameD (n + 1)) := by
  have sc : FnScope ["_law_told", "_law_due_here", "_law_k"] ["_law_told", "_law_due_here"] (defScope s_law_same) := ⟨rfl, rfl, rfl, by decide +kernel, rfl, by decide +kernel, by decide +kernel⟩
  exact fd_ok (mono_law_sameD (n + 1)) F sc hm (len_law_sameD (n + 1)) (fun _ _ _ _ _ _ us hl => match us, hl with | [_, _], _ => rfl) (fun cdv A outer s H E so B hr tk => ⟨p_law_sameD n, (have hu := hr.units; (dss_cons (ds_if (db_isN (de_var 1) de_non) (dss_cons (ds_ret (de_isN (de_var 0) de_non))
    dss_nil) dss_nil)
    (dss_cons (ds_if (db_val (de_isiT (T := "bool") (n := "bool") rfl (T.of "isinstance") (T.of "bool") (by decide +kernel) isBool_ok (de_var 1))) (dss_cons (ds_ret (de_and (de_isiT (T := "bool") (n := "bool") rfl (T.of "isinstance") (T.of "bool") (by decide +kernel) isBool_ok (de_var 0)) (de_one (de_eq hu rfl (de_var 0) (de_var 1)))))
    dss_nil) dss_nil)
    (dss_cons (ds_if (db_val (de_isiT (T := "int") (n := "int") rfl (T.of "isinstance") (T.of "int") (by decide +kernel) isInt_ok (de_var 1))) (dss_cons (ds_ret (de_and (de_isiT (T := "int") (n := "int") rfl (T.of "isinstance") (T.of "int") (by decide +kernel) isInt_ok (de_var 0)) (de_and (de_not (de_isiT (T := "bool") (n := "bool") rfl (T.of "isinstance") (T.of "bool") (by decide +kernel) isBool_ok (de_var 0))) (de_one (de_eq hu rfl (de_var 0) (de_var 1))))))
    dss_nil) dss_nil)
    (dss_cons (ds_if (db_val (de_isi2 (T1 := "str") (T2 := "dict") (n1 := "str") (n2 := "dict") rfl (T.of "isinstance") (T.of "str") (by decide +kernel) (T.of "dict") (by decide +kernel) isStr_ok isDic_ok (de_var 1))) (dss_cons (ds_ret (de_and (de_isi2 (T1 := "str") (T2 := "dict") (n1 := "str") (n2 := "dict") rfl (T.of "isinstance") (T.of "str") (by decide +kernel) (T.of "dict") (by decide +kernel) isStr_ok isDic_ok (de_var 0)) (de_one (de_eqS hu rfl (de_var 0) (de_var 1)))))
    dss_nil) dss_nil)
    (dss_cons (ds_if (DW.db (dw_and (db_val (de_isiT (T := "list") (n := "list") rfl (T.of "isinstance") (T.of "list") (by decide +kernel) isLst_ok (de_var 1))) (dw_and1 (db_not (db_val (de_isiT (T := "list") (n := "list") rfl (T.of "isinstance") (T.of "list") (by decide +kernel) isLst_ok (de_var 0))))))) (dss_cons (ds_ret de_bl)
    dss_nil) dss_nil)
    (dss_cons (ds_if (DW.db (dw_and (db_val (de_isiT (T := "tuple") (n := "tuple") rfl (T.of "isinstance") (T.of "tuple") (by decide +kernel) isTup_ok (de_var 1))) (dw_and1 (db_not (db_val (de_isiT (T := "tuple") (n := "tuple") rfl (T.of "isinstance") (T.of "tuple") (by decide +kernel) isTup_ok (de_var 0))))))) (dss_cons (ds_ret de_bl)
    dss_nil) dss_nil)
    (dss_cons (ds_if (db_ne hu rfl (de_len rfl (T.of "len") (da_cons (de_var 0) da_nil)) (de_len rfl (T.of "len") (da_cons (de_var 1) da_nil))) (dss_cons (ds_ret de_bl)
    dss_nil) dss_nil)
    (dss_cons (ds_for (passes_of rfl) rfl (di_range1 (T.of "range") (da_cons (de_len rfl (T.of "len") (da_cons (de_var 1) da_nil)) da_nil)) (dg_name 2 sc.nd) (dss_cons (ds_if (db_not (db_val (de_call F_law_sameD (hr.mono (Nat.le_refl _)) rfl tk (da_cons (de_ix rfl (de_var 0) (de_var 2)) (da_cons (de_ix rfl (de_var 1) (de_var 2)) da_nil))))) (dss_cons (ds_ret de_bl)
    dss_nil) dss_nil)
    dss_nil))
    (dss_cons (ds_ret de_bl)
    dss_nil)))))))))), sat_law_sameD n⟩)
theorem ok_law_spoil {P : Program} {w : World} {K : PySem.W.Frag} {mg : Str → Option Value} {base : Heap} {f : Addr} {fd : FuncData}  {n k : Nat} (F : FunD K "_law_spoil" "_law_spoil" (defArgs s_law_spoil) (defBody s_law_spoil) (defScope s_law_spoil) [] [] f fd) (hm : mg "_law_spoil" = some (.ref f)) (T : Bt mg free) (Y : ErF K mg errs)  (hIK : InsK K okI) (X_law_spoil : FDx P w K mg base k "_law_spoil" true n) :
    FDx P w K mg base (k + 1) "_law_spoil" true (n + 1) := by
  have sc : FnScope ["_law_given", "_law_item"] ["_law_given"] (defScope s_law_spoil) := ⟨rfl, rfl, rfl, by decide +kernel, rfl, by decide +kernel, by decide +kernel⟩
  exact fdx_ok (ft := orF (insF okI isLst) (insF okI isTup)) (fun _ => ⟨hIK.ink _ rfl, hIK.own _ rfl _ (by decide), hIK.own _ rfl _ (by decide)⟩) (fun d b h => by cases d <;> first | exact h | (exact absurd h (by decide)) | (simp [orF, isLst, NoExc] at h)) (fun _ _ _ => rfl) F sc rfl rfl hm (fun _ _ _ _ _ _ us hl => match us, hl with | [_], _ => rfl) (fun cdv A outer s H E hr => by
    obtain ⟨f2, fd2, ps2, hm2, hk2, hF2, hB2⟩ := X_law_spoil
    refine pss_cons (ps_if (pt_tst ?_) (pss_one ?_) pss_nil) (pss_one (ps_if ?_ ?_ pss_nil))
    · intro G hG
      obtain ⟨K1, so, B, H1, E1⟩ := G
      cases hG
      exact (db_val (de_isi2 (T1 := "list") (T2 := "tuple") (n1 := "list") (n2 := "tuple") rfl (T.of "isinstance") (T.of "list") (by decide +kernel) (T.of "tuple") (by decide +kernel) hIK.lst hIK.tup (de_var 0)))
    · exact ps_for (passes_of rfl) rfl (pi_list (pe_callTy call_list_of (by rfl) (T.of "list") (by decide +kernel) (pa_cons (pe_var (i := 0) rfl (.inl rfl)) pa_nil rfl))) (pg_name (i := 1) sc.nd rfl (.inl rfl)) (pss_one (ps_expr (pe_callS (E := fun _ => fun _ _ _ => False) hF2 (hr.mono (Nat.le_refl _)) (by rfl) hm2 hk2 hB2 (fun σ => L2N.passAt takes_no σ) (pa_cons (pe_var (i := 1) rfl (.inl rfl)) pa_nil rfl))))
    · exact pt_kind rfl (.inl rfl) (T.of "isinstance") (T.of "list") (by decide +kernel)
    · exact pss_cons (ps_expr (pe_bm0 PySem.F.plainAttrs_list PySem.F.slot_list_reverse PySem.F.type_list_reverse mt_reverse (pe_var (i := 0) rfl (.inl rfl)))) (pss_cons (ps_expr (pe_bm PySem.F.plainAttrs_list PySem.F.slot_list_append PySem.F.type_list_append mt_append (pe_var (i := 0) rfl (.inl rfl)) (pa_cons pe_str pa_nil rfl))) (pss_one (ps_asg pe_str (pg_sub (pe_var (i := 0) rfl (.inl rfl)) pe_int set_list)))))
theorem ok_law_is_tableD {P : Program} {w : World} {K : PySem.W.Frag} {mg : Str → Option Value} {base : Heap} {f : Addr} {fd : FuncData}  (F : FunD K "_law_is_table" "_law_is_table" (defArgs s_law_is_table) (defBody s_law_is_table) (defScope s_law_is_table) [] [] f fd) (hm : mg "_law_is_table" = some (.ref f)) (T : Bt mg free) (Y : ErF K mg errs) (G_Table_width : FDg P w K mg base 1 "Table" "width" W_Table_width) (F_law_sameD : FD P w K mg base 6 "_law_same" 2 (W_law_sameD 6)) (G_Table_bits : FDg P w K mg base 1 "Table" "bits" W_Table_bits) (O_Table : OwnK K mg "Table") (hIK : InsK K okI) :
    FD P w K mg base 7 "_law_is_table" 3 W_law_is_tableD := by
  have sc : FnScope ["_law_given", "_law_wide_here", "_law_due_here"] ["_law_given", "_law_wide_here", "_law_due_here"] (defScope s_law_is_table) := ⟨rfl, rfl, rfl, by decide +kernel, rfl, by decide +kernel, by decide +kernel⟩
  exact fd_ok mono_law_is_tableD F sc hm len_law_is_tableD (fun _ _ _ _ _ _ us hl => match us, hl with | [_, _, _], _ => rfl) (fun cdv A outer s H E so B hr tk => ⟨p_law_is_tableD, (have hu := hr.units; (dss_cons (ds_if (db_not (db_val (de_isiC (T := "Table") rfl (T.of "isinstance") O_Table.mg (hIK.cls O_Table rfl) (de_var 0)))) (dss_cons (ds_ret de_bl)
    dss_nil) dss_nil)
    (dss_cons (ds_ret (de_and (de_call F_law_sameD (hr.mono (by decide)) rfl tk (da_cons (de_prop G_Table_width (hr.mono (by decide)) rfl (de_var 0)) (da_cons (de_var 1) da_nil))) (de_one (de_call F_law_sameD (hr.mono (by decide)) rfl tk (da_cons (de_prop G_Table_bits (hr.mono (by decide)) rfl (de_var 0)) (da_cons (de_tuple rfl (T.of "tuple") (da_cons (de_var 2) da_nil)) da_nil))))))
    dss_nil))), sat_law_is_tableD⟩)
theorem ok_law_size {P : Program} {w : World} {K : PySem.W.Frag} {mg : Str → Option Value} {base : Heap} {f : Addr} {fd : FuncData}  (F : FunD K "_law_size" "_law_size" (defArgs s_law_size) (defBody s_law_size) (defScope s_law_size) [] [] f fd) (hm : mg "_law_size" = some (.ref f)) (T : Bt mg free) (Y : ErF K mg errs)  :
    FD P w K mg base 1 "_law_size" 1 W_law_size := by
  have sc : FnScope ["_law_mask", "_law_many", "_law_k"] ["_law_mask"] (defScope s_law_size) := ⟨rfl, rfl, rfl, by decide +kernel, rfl, by decide +kernel, by decide +kernel⟩
  exact fd_ok mono_law_size F sc hm len_law_size (fun _ _ _ _ _ _ us hl => match us, hl with | [_], _ => rfl) (fun cdv A outer s H E so B hr tk => ⟨p_law_size, (have hu := hr.units; (dss_cons (ds_set 1 sc.nd de_int)
    (dss_cons (ds_for (passes_of rfl) rfl (di_range1 (T.of "range") (da_cons de_int da_nil)) (dg_name 2 sc.nd) (dss_cons (ds_set 1 sc.nd (de_addA (de_var 1) (de_and2 (de_shr (de_var 0) (de_var 2)) de_int)))
    (dss_cons (ds_if (db_lt (de_shr (de_var 0) (de_var 2)) de_int) (dss_cons ds_break
    dss_nil) dss_nil)
    dss_nil)))
    (dss_cons (ds_ret (de_var 1))
    dss_nil)))), sat_law_size⟩)
theorem ok_law_parity {P : Program} {w : World} {K : PySem.W.Frag} {mg : Str → Option Value} {base : Heap} {f : Addr} {fd : FuncData}  (F : FunD K "_law_parity" "_law_parity" (defArgs s_law_parity) (defBody s_law_parity) (defScope s_law_parity) [] [] f fd) (hm : mg "_law_parity" = some (.ref f)) (T : Bt mg free) (Y : ErF K mg errs) (F_law_size : FD P w K mg base 1 "_law_size" 1 W_law_size) :
    FD P w K mg base 2 "_law_parity" 2 W_law_parity := by
  have sc : FnScope ["_law_mask", "_law_here"] ["_law_mask", "_law_here"] (defScope s_law_parity) := ⟨rfl, rfl, rfl, by decide +kernel, rfl, by decide +kernel, by decide +kernel⟩
  exact fd_ok mono_law_parity F sc hm len_law_parity (fun _ _ _ _ _ _ us hl => match us, hl with | [_, _], _ => rfl) (fun cdv A outer s H E so B hr tk => ⟨p_law_parity, (have hu := hr.units; (dss_cons (ds_ret (de_mod (de_intOf (T.of "int") (da_cons (de_call F_law_size (hr.mono (by decide)) rfl tk (da_cons (de_and2 (de_var 0) (de_var 1)) da_nil)) da_nil)) de_int))
    dss_nil)), sat_law_parity⟩)
theorem ok_law_width {P : Program} {w : World} {K : PySem.W.Frag} {mg : Str → Option Value} {base : Heap} {f : Addr} {fd : FuncData}  (F : FunD K "_law_width" "_law_width" (defArgs s_law_width) (defBody s_law_width) (defScope s_law_width) [] [] f fd) (hm : mg "_law_width" = some (.ref f)) (T : Bt mg free) (Y : ErF K mg errs) (F_law_take : FD P w K mg base 3 "_law_take" 2 W_law_take) :
    FD P w K mg base 4 "_law_width" 3 W_law_width := by
  have sc : FnScope ["_law_store_here", "_law_least", "_law_most", "_law_wide_here"] ["_law_store_here", "_law_least", "_law_most"] (defScope s_law_width) := ⟨rfl, rfl, rfl, by decide +kernel, rfl, by decide +kernel, by decide +kernel⟩
  exact fd_ok mono_law_width F sc hm len_law_width (fun _ _ _ _ _ _ us hl => match us, hl with | [_, _, _], _ => rfl) (fun cdv A outer s H E so B hr tk => ⟨p_law_width, (have hu := hr.units; (dss_cons (ds_set 3 sc.nd (de_ix rfl (de_lst (da_cons de_int (da_cons de_int (da_cons de_int (da_cons de_int (da_cons de_int (da_cons de_int (da_cons de_int (da_cons de_int (da_cons de_int (da_cons de_int (da_cons de_int (da_cons de_int (da_cons de_int (da_cons de_int (da_cons de_int (da_cons de_int da_nil))))))))))))))))) (de_call F_law_take (hr.mono (by decide)) rfl tk (da_cons (de_var 0) (da_cons de_int da_nil)))))
    (dss_cons (ds_ret (de_max rfl (T.of "max") (da_cons (de_var 1) (da_cons (de_min rfl (T.of "min") (da_cons (de_var 2) (da_cons (de_var 3) da_nil))) da_nil))))
    dss_nil))), sat_law_width⟩)
theorem ok_law_as_row {P : Program} {w : World} {K : PySem.W.Frag} {mg : Str → Option Value} {base : Heap} {f : Addr} {fd : FuncData}  (F : FunD K "_law_as_row" "_law_as_row" (defArgs s_law_as_row) (defBody s_law_as_row) (defScope s_law_as_row) [] [] f fd) (hm : mg "_law_as_row" = some (.ref f)) (T : Bt mg free) (Y : ErF K mg errs) (F_law_take : FD P w K mg base 3 "_law_take" 2 W_law_take) :
    FD P w K mg base 4 "_law_as_row" 2 W_law_as_row := by
  have sc : FnScope ["_law_store_here", "_law_row"] ["_law_store_here", "_law_row"] (defScope s_law_as_row) := ⟨rfl, rfl, rfl, by decide +kernel, rfl, by decide +kernel, by decide +kernel⟩
  exact fd_ok mono_law_as_row F sc hm len_law_as_row (fun _ _ _ _ _ _ us hl => match us, hl with | [_, _], _ => rfl) (fun cdv A outer s H E so B hr tk => ⟨p_law_as_row, (have hu := hr.units; (dss_cons (ds_if (db_eq hu rfl (de_call F_law_take (hr.mono (by decide)) rfl tk (da_cons (de_var 0) (da_cons de_int da_nil))) de_int) (dss_cons (ds_ret (de_list rfl (T.of "list") (da_cons (de_var 1) da_nil)))
    dss_nil) dss_nil)
    (dss_cons (ds_ret (de_tuple rfl (T.of "tuple") (da_cons (de_var 1) da_nil)))
    dss_nil))), sat_law_as_row⟩)
theorem ok_law_number_fault_iv {P : Program} {w : World} {K : PySem.W.Frag} {mg : Str → Option Value} {base : Heap} {f : Addr} {fd : FuncData}  (F : FunD K "_law_number_fault" "_law_number_fault" (defArgs s_law_number_fault) (defBody s_law_number_fault) (defScope s_law_number_fault) [] [] f fd) (hm : mg "_law_number_fault" = some (.ref f)) (T : Bt mg free) (Y : ErF K mg errs) (hIK : InsK K okI) :
    FD P w K mg base 1 "_law_number_fault" 3 W_law_number_fault_iv := by
  have sc : FnScope ["_law_given", "_law_low", "_law_high"] ["_law_given", "_law_low", "_law_high"] (defScope s_law_number_fault) := ⟨rfl, rfl, rfl, by decide +kernel, rfl, by decide +kernel, by decide +kernel⟩
  exact fd_ok mono_law_number_fault_iv F sc hm len_law_number_fault_iv (fun _ _ _ _ _ _ us hl => match us, hl with | [_, _, _], _ => rfl) (fun cdv A outer s H E so B hr tk => ⟨p_law_number_fault_iv, (have hu := hr.units; (dss_cons (ds_if (DW.db (dw_or (db_not (db_val (de_isiT (T := "int") (n := "int") rfl (T.of "isinstance") (T.of "int") (by decide +kernel) hIK.int (de_var 0)))) (dw_or1 (db_val (de_isiT (T := "bool") (n := "bool") rfl (T.of "isinstance") (T.of "bool") (by decide +kernel) hIK.bool (de_var 0)))))) (dss_cons (ds_ret de_str)
    dss_nil) dss_nil)
    (dss_cons (ds_if (DW.db (dw_or (DW.db (dw_and (db_notN (de_var 1) de_non) (dw_and1 (db_lt (de_var 0) (de_var 1))))) (dw_or1 (DW.db (dw_and (db_notN (de_var 2) de_non) (dw_and1 (db_gt (de_var 0) (de_var 2)))))))) (dss_cons (ds_ret de_str)
    dss_nil) dss_nil)
    (dss_cons (ds_ret de_str)
    dss_nil)))), sat_law_number_fault_iv⟩)
theorem ok_law_row_faultN {P : Program} {w : World} {K : PySem.W.Frag} {mg : Str → Option Value} {base : Heap} {f : Addr} {fd : FuncData}  (F : FunD K "_law_row_fault" "_law_row_fault" (defArgs s_law_row_fault) (defBody s_law_row_fault) (defScope s_law_row_fault) [] [] f fd) (hm : mg "_law_row_fault" = some (.ref f)) (T : Bt mg free) (Y : ErF K mg errs) (F_law_number_fault_iv : FD P w K mg base 1 "_law_number_fault" 3 W_law_number_fault_iv) (hIK : InsK K okI) :
    FD P w K mg base 2 "_law_row_fault" 5 W_law_row_faultN := by
  have sc : FnScope ["_law_given", "_law_least", "_law_most", "_law_low", "_law_high", "_law_item", "_law_found"] ["_law_given", "_law_least", "_law_most", "_law_low", "_law_high"] (defScope s_law_row_fault) := ⟨rfl, rfl, rfl, by decide +kernel, rfl, by decide +kernel, by decide +kernel⟩
  exact fd_ok mono_law_row_faultN F sc hm len_law_row_faultN (fun _ _ _ _ _ _ us hl => match us, hl with | [_, _, _, _, _], _ => rfl) (fun cdv A outer s H E so B hr tk => ⟨p_law_row_faultN, (have hu := hr.units; (dss_cons (ds_if (db_not (db_val (de_isi2 (T1 := "list") (T2 := "tuple") (n1 := "list") (n2 := "tuple") rfl (T.of "isinstance") (T.of "list") (by decide +kernel) (T.of "tuple") (by decide +kernel) hIK.lst hIK.tup (de_var 0)))) (dss_cons (ds_ret de_str)
    dss_nil) dss_nil)
    (dss_cons (ds_if (DW.db (dw_or (db_lt (de_len rfl (T.of "len") (da_cons (de_var 0) da_nil)) (de_var 1)) (dw_or1 (db_gt (de_len rfl (T.of "len") (da_cons (de_var 0) da_nil)) (de_var 2))))) (dss_cons (ds_ret de_str)
    dss_nil) dss_nil)
    (dss_cons (ds_for (passes_of rfl) rfl (di_lt rfl (de_var 0)) (dg_name 5 sc.nd) (dss_cons (ds_set 6 sc.nd (de_call F_law_number_fault_iv (hr.mono (by decide)) rfl tk (da_cons (de_var 5) (da_cons (de_var 3) (da_cons (de_var 4) da_nil)))))
    (dss_cons (ds_if (db_ne hu rfl (de_var 6) de_str) (dss_cons (ds_ret (de_var 6))
    dss_nil) dss_nil)
    dss_nil)))
    (dss_cons (ds_ret de_str)
    dss_nil))))), sat_law_row_faultN⟩)
theorem ok_law_field_fault {P : Program} {w : World} {K : PySem.W.Frag} {mg : Str → Option Value} {base : Heap} {f : Addr} {fd : FuncData}  (F : FunD K "_law_field_fault" "_law_field_fault" (defArgs s_law_field_fault) (defBody s_law_field_fault) (defScope s_law_field_fault) [] [] f fd) (hm : mg "_law_field_fault" = some (.ref f)) (T : Bt mg free) (Y : ErF K mg errs) (F_law_row_faultN : FD P w K mg base 2 "_law_row_fault" 5 W_law_row_faultN) (hIK : InsK K okI) :
    FD P w K mg base 3 "_law_field_fault" 1 W_law_field_fault := by
  have sc : FnScope ["_law_given"] ["_law_given"] (defScope s_law_field_fault) := ⟨rfl, rfl, rfl, by decide +kernel, rfl, by decide +kernel, by decide +kernel⟩
  exact fd_ok mono_law_field_fault F sc hm len_law_field_fault (fun _ _ _ _ _ _ us hl => match us, hl with | [_], _ => rfl) (fun cdv A outer s H E so B hr tk => ⟨p_law_field_fault, (have hu := hr.units; (dss_cons (ds_if (DW.db (dw_and (db_val (de_isi2 (T1 := "list") (T2 := "tuple") (n1 := "list") (n2 := "tuple") rfl (T.of "isinstance") (T.of "list") (by decide +kernel) (T.of "tuple") (by decide +kernel) hIK.lst hIK.tup (de_var 0))) (dw_and1 (db_notin rfl (de_len rfl (T.of "len") (da_cons (de_var 0) da_nil)) (de_lst (da_cons de_int (da_cons de_int (da_cons de_int (da_cons de_int (da_cons de_int (da_cons de_int (da_cons de_int da_nil)))))))))))) (dss_cons (ds_ret de_str)
    dss_nil) dss_nil)
    (dss_cons (ds_ret (de_call F_law_row_faultN (hr.mono (by decide)) rfl tk (da_cons (de_var 0) (da_cons de_int (da_cons de_int (da_cons de_non (da_cons de_non da_nil)))))))
    dss_nil))), sat_law_field_fault⟩)
theorem ok_law_first_fault {P : Program} {w : World} {K : PySem.W.Frag} {mg : Str → Option Value} {base : Heap} {f : Addr} {fd : FuncData}  (F : FunD K "_law_first_fault" "_law_first_fault" (defArgs s_law_first_fault) (defBody s_law_first_fault) (defScope s_law_first_fault) [] [] f fd) (hm : mg "_law_first_fault" = some (.ref f)) (T : Bt mg free) (Y : ErF K mg errs)  :
    FD P w K mg base 1 "_law_first_fault" 1 W_law_first_fault := by
  have sc : FnScope ["_law_pair_row", "_law_item"] ["_law_pair_row"] (defScope s_law_first_fault) := ⟨rfl, rfl, rfl, by decide +kernel, rfl, by decide +kernel, by decide +kernel⟩
  exact fd_ok mono_law_first_fault F sc hm len_law_first_fault (fun _ _ _ _ _ _ us hl => match us, hl with | [_], _ => rfl) (fun cdv A outer s H E so B hr tk => ⟨p_law_first_fault, (have hu := hr.units; (dss_cons (ds_for (passes_of rfl) rfl (di_list rfl (de_var 0)) (dg_name 1 sc.nd) (dss_cons (ds_if (db_ne hu rfl (de_ix rfl (de_var 1) de_int) de_str) (dss_cons (ds_ret (de_tup (da_cons (de_ix rfl (de_var 1) de_int) (da_cons (de_ix rfl (de_var 1) de_int) da_nil))))
    dss_nil) dss_nil)
    dss_nil))
    (dss_cons (ds_ret de_non)
    dss_nil))), sat_law_first_fault⟩)
theorem ok_law_odd_numberN {P : Program} {w : World} {K : PySem.W.Frag} {mg : Str → Option Value} {base : Heap} {f : Addr} {fd : FuncData}  (F : FunD K "_law_odd_number" "_law_odd_number" (defArgs s_law_odd_number) (defBody s_law_odd_number) (defScope s_law_odd_number) [] [] f fd) (hm : mg "_law_odd_number" = some (.ref f)) (T : Bt mg free) (Y : ErF K mg errs) (F_law_take : FD P w K mg base 3 "_law_take" 2 W_law_take) :
    FD P w K mg base 4 "_law_odd_number" 3 W_law_odd_numberN := by
  have sc : FnScope ["_law_store_here", "_law_low", "_law_high", "_law_least", "_law_most", "_law_kind"] ["_law_store_here", "_law_low", "_law_high"] (defScope s_law_odd_number) := ⟨rfl, rfl, rfl, by decide +kernel, rfl, by decide +kernel, by decide +kernel⟩
  exact fd_ok mono_law_odd_numberN F sc hm len_law_odd_numberN (fun _ _ _ _ _ _ us hl => match us, hl with | [_, _, _], _ => rfl) (fun cdv A outer s H E so B hr tk => ⟨p_law_odd_numberN, (have hu := hr.units; (dss_cons (ds_set 3 sc.nd de_int)
    (dss_cons (ds_if (db_notN (de_var 1) de_non) (dss_cons (ds_set 3 sc.nd (de_var 1))
    dss_nil) dss_nil)
    (dss_cons (ds_set 4 sc.nd (de_var 3))
    (dss_cons (ds_if (db_notN (de_var 2) de_non) (dss_cons (ds_set 4 sc.nd (de_var 2))
    dss_nil) dss_nil)
    (dss_cons (ds_set 5 sc.nd (de_call F_law_take (hr.mono (by decide)) rfl tk (da_cons (de_var 0) (da_cons de_int da_nil))))
    (dss_cons (ds_if (db_lt (de_var 5) de_int) (dss_cons (ds_ret (de_ix rfl (de_lst (da_cons de_non (da_cons de_bl (da_cons de_bl (da_cons de_str (da_cons de_str (da_cons (de_lst (da_cons de_int da_nil)) (da_cons (de_tup (da_cons de_int da_nil)) (da_cons de_dnew da_nil))))))))) (de_var 5)))
    dss_nil) dss_nil)
    (dss_cons (ds_ret (de_ix rfl (de_lst (da_cons (de_sub (de_var 3) de_int) (da_cons (de_addA (de_var 4) de_int) (da_cons (de_sub (de_var 3) (de_pow de_int de_int)) (da_cons (de_addA (de_var 4) (de_pow de_int de_int)) (da_cons (de_var 3) (da_cons (de_var 4) da_nil))))))) (de_sub (de_var 5) de_int)))
    dss_nil)))))))), sat_law_odd_numberN⟩)
theorem ok_law_is_model {P : Program} {w : World} {K : PySem.W.Frag} {mg : Str → Option Value} {base : Heap} {f : Addr} {fd : FuncData}  (F : FunD K "_law_is_model" "_law_is_model" (defArgs s_law_is_model) (defBody s_law_is_model) (defScope s_law_is_model) [] [] f fd) (hm : mg "_law_is_model" = some (.ref f)) (T : Bt mg free) (Y : ErF K mg errs) (F_law_is_integer : FD P w K mg base 1 "_law_is_integer" 1 W_law_is_integer) (hIK : InsK K okI) :
    FD P w K mg base 2 "_law_is_model" 1 W_law_is_model := by
  have sc : FnScope ["_law_given", "_law_item"] ["_law_given"] (defScope s_law_is_model) := ⟨rfl, rfl, rfl, by decide +kernel, rfl, by decide +kernel, by decide +kernel⟩
  exact fd_ok mono_law_is_model F sc hm len_law_is_model (fun _ _ _ _ _ _ us hl => match us, hl with | [_], _ => rfl) (fun cdv A outer s H E so B hr tk => ⟨p_law_is_model, (have hu := hr.units; (dss_cons (ds_if (DW.db (dw_or (db_not (db_val (de_isiT (T := "tuple") (n := "tuple") rfl (T.of "isinstance") (T.of "tuple") (by decide +kernel) hIK.tup (de_var 0)))) (dw_or (db_ne hu rfl (de_len rfl (T.of "len") (da_cons (de_var 0) da_nil)) de_int) (dw_or1 (db_not (db_val (de_call F_law_is_integer (hr.mono (by decide)) rfl tk (da_cons (de_ix rfl (de_var 0) de_int) da_nil)))))))) (dss_cons (ds_ret de_bl)
    dss_nil) dss_nil)
    (dss_cons (ds_if (DW.db (dw_or (db_lt (de_ix rfl (de_var 0) de_int) de_int) (dw_or (db_gt (de_ix rfl (de_var 0) de_int) de_int) (dw_or (db_not (db_val (de_isiT (T := "list") (n := "list") rfl (T.of "isinstance") (T.of "list") (by decide +kernel) hIK.lst (de_ix rfl (de_var 0) de_int)))) (dw_or1 (db_ne hu rfl (de_len rfl (T.of "len") (da_cons (de_ix rfl (de_var 0) de_int) da_nil)) (de_shl de_int (de_ix rfl (de_var 0) de_int)))))))) (dss_cons (ds_ret de_bl)
    dss_nil) dss_nil)
    (dss_cons (ds_for (passes_of rfl) rfl (di_list rfl (de_ix rfl (de_var 0) de_int)) (dg_name 1 sc.nd) (dss_cons (ds_if (DW.db (dw_or (db_not (db_val (de_call F_law_is_integer (hr.mono (by decide)) rfl tk (da_cons (de_var 1) da_nil)))) (dw_or (db_lt (de_var 1) de_int) (dw_or1 (db_gt (de_var 1) de_int))))) (dss_cons (ds_ret de_bl)
    dss_nil) dss_nil)
    dss_nil))
    (dss_cons (ds_ret de_bl)
    dss_nil))))), sat_law_is_model⟩)
theorem ok_law_as_table {P : Program} {w : World} {K : PySem.W.Frag} {mg : Str → Option Value} {base : Heap} {f : Addr} {fd : FuncData}  {n k : Nat} (hk : 7 ≤ k) (F : FunD K "_law_as_table" "_law_as_table" (defArgs s_law_as_table) (defBody s_law_as_table) (defScope s_law_as_table) [] [] f fd) (hm : mg "_law_as_table" = some (.ref f)) (T : Bt mg free) (Y : ErF K mg errs) (hIK : InsK K okI) (F_law_as_table : FD P w K mg base k "_law_as_table" 1 (W_law_as_table n)) (F_law_is_model : FD P w K mg base 2 "_law_is_model" 1 W_law_is_model) (I_Table_init : FDi P w K mg base 6 "Table" 2 W_Table_init) :
    FD P w K mg base (k + 1) "_law_as_table" 1 (W_law_as_table (n + 1)) := by
  have sc : FnScope ["_law_given", "_law_item"] ["_law_given"] (defScope s_law_as_table) := ⟨rfl, rfl, rfl, by decide +kernel, rfl, by decide +kernel, by decide +kernel⟩
  exact fd_ok (mono_law_as_table (n + 1)) F sc hm (len_law_as_table (n + 1)) (fun _ _ _ _ _ _ us hl => match us, hl with | [_], _ => rfl) (fun cdv A outer s H E so B hr tk => ⟨p_law_as_table n, (have hu := hr.units; (dss_cons (ds_if (db_val (de_call F_law_is_model (hr.mono (by omega)) rfl tk (da_cons (de_var 0) da_nil))) (dss_cons (ds_ret (de_make I_Table_init (hr.mono (by omega)) rfl tk (fun _ _ => rfl) (da_cons (de_ix rfl (de_var 0) de_int) (da_cons (de_list rfl (T.of "list") (da_cons (de_ix rfl (de_var 0) de_int) da_nil)) da_nil))))
    dss_nil) dss_nil)
    (dss_cons (ds_if (db_val (de_isiT (T := "list") (n := "list") rfl (T.of "isinstance") (T.of "list") (by decide +kernel) hIK.lst (de_var 0))) (dss_cons (ds_ret (de_lcO 1 rfl sc.nd (di_list rfl (de_var 0)) (blkOk_of rfl) (fun _ _ _ _ _ => pg_name sc.nd rfl (by first | exact .inl rfl | exact .inr rfl)) (fun _ _ _ _ _ => (de_call F_law_as_table (hr.mono (Nat.le_refl _)) rfl takes_no (da_cons (de_var 1) da_nil)))))
    dss_nil) dss_nil)
    (dss_cons (ds_if (db_val (de_isiT (T := "tuple") (n := "tuple") rfl (T.of "isinstance") (T.of "tuple") (by decide +kernel) hIK.tup (de_var 0))) (dss_cons (ds_ret (de_tupO rfl (T.of "tuple") (de_lcO 1 rfl sc.nd (di_tup rfl (de_var 0)) (blkOk_of rfl) (fun _ _ _ _ _ => pg_name sc.nd rfl (by first | exact .inl rfl | exact .inr rfl)) (fun _ _ _ _ _ => (de_call F_law_as_table (hr.mono (Nat.le_refl _)) rfl takes_no (da_cons (de_var 1) da_nil))))))
    dss_nil) dss_nil)
    (dss_cons (ds_ret (de_var 0))
    dss_nil))))), sat_law_as_table n⟩)
theorem ok_law_meets {P : Program} {w : World} {K : PySem.W.Frag} {mg : Str → Option Value} {base : Heap} {f : Addr} {fd : FuncData}  {n k : Nat} (hk : 7 ≤ k) (F : FunD K "_law_meets" "_law_meets" (defArgs s_law_meets) (defBody s_law_meets) (defScope s_law_meets) [] [] f fd) (hm : mg "_law_meets" = some (.ref f)) (T : Bt mg free) (Y : ErF K mg errs) (F_law_meets : FD P w K mg base k "_law_meets" 2 (W_law_meets n)) (hIK : InsK K okI) (F_law_sameD : FD P w K mg base 6 "_law_same" 2 (W_law_sameD 6)) (F_law_is_model : FD P w K mg base 2 "_law_is_model" 1 W_law_is_model) (F_law_is_tableD : FD P w K mg base 7 "_law_is_table" 3 W_law_is_tableD) :
    FD P w K mg base (k + 1) "_law_meets" 2 (W_law_meets (n + 1)) := by
  have sc : FnScope ["_law_told", "_law_due_here", "_law_k"] ["_law_told", "_law_due_here"] (defScope s_law_meets) := ⟨rfl, rfl, rfl, by decide +kernel, rfl, by decide +kernel, by decide +kernel⟩
  exact fd_ok (mono_law_meets (n + 1)) F sc hm (len_law_meets (n + 1)) (fun _ _ _ _ _ _ us hl => match us, hl with | [_, _], _ => rfl) (fun cdv A outer s H E so B hr tk => ⟨p_law_meets n, (have hu := hr.units; (dss_cons (ds_if (db_val (de_call F_law_is_model (hr.mono (by omega)) rfl tk (da_cons (de_var 1) da_nil))) (dss_cons (ds_ret (de_call F_law_is_tableD (hr.mono (by omega)) rfl tk (da_cons (de_var 0) (da_cons (de_ix rfl (de_var 1) de_int) (da_cons (de_ix rfl (de_var 1) de_int) da_nil)))))
    dss_nil) dss_nil)
    (dss_cons (ds_if (db_not (db_val (de_isi2 (T1 := "list") (T2 := "tuple") (n1 := "list") (n2 := "tuple") rfl (T.of "isinstance") (T.of "list") (by decide +kernel) (T.of "tuple") (by decide +kernel) hIK.lst hIK.tup (de_var 1)))) (dss_cons (ds_ret (de_call F_law_sameD (hr.mono (by omega)) rfl tk (da_cons (de_var 0) (da_cons (de_var 1) da_nil))))
    dss_nil) dss_nil)
    (dss_cons (ds_if (DW.db (dw_or (db_ne hu rfl (de_isiT (T := "list") (n := "list") rfl (T.of "isinstance") (T.of "list") (by decide +kernel) hIK.lst (de_var 1)) (de_isiT (T := "list") (n := "list") rfl (T.of "isinstance") (T.of "list") (by decide +kernel) hIK.lst (de_var 0))) (dw_or1 (db_ne hu rfl (de_isiT (T := "tuple") (n := "tuple") rfl (T.of "isinstance") (T.of "tuple") (by decide +kernel) hIK.tup (de_var 1)) (de_isiT (T := "tuple") (n := "tuple") rfl (T.of "isinstance") (T.of "tuple") (by decide +kernel) hIK.tup (de_var 0)))))) (dss_cons (ds_ret de_bl)
    dss_nil) dss_nil)
    (dss_cons (ds_if (db_ne hu rfl (de_len rfl (T.of "len") (da_cons (de_var 0) da_nil)) (de_len rfl (T.of "len") (da_cons (de_var 1) da_nil))) (dss_cons (ds_ret de_bl)
    dss_nil) dss_nil)
    (dss_cons (ds_for (passes_of rfl) rfl (di_range1 (T.of "range") (da_cons (de_len rfl (T.of "len") (da_cons (de_var 1) da_nil)) da_nil)) (dg_name 2 sc.nd) (dss_cons (ds_if (db_not (db_val (de_call F_law_meets (hr.mono (Nat.le_refl _)) rfl tk (da_cons (de_ix rfl (de_var 0) (de_var 2)) (da_cons (de_ix rfl (de_var 1) (de_var 2)) da_nil))))) (dss_cons (ds_ret de_bl)
    dss_nil) dss_nil)
    dss_nil))
    (dss_cons (ds_ret de_bl)
    dss_nil))))))), sat_law_meets n⟩)
theorem ok_law_fault {P : Program} {w : World} {K : PySem.W.Frag} {mg : Str → Option Value} {base : Heap} {f : Addr} {fd : FuncData}  (F : FunD K "_law_fault" "_law_fault" (defArgs s_law_fault) (defBody s_law_fault) (defScope s_law_fault) [] [] f fd) (hm : mg "_law_fault" = some (.ref f)) (T : Bt mg free) (Y : ErF K mg errs) (F_law_first_fault : FD P w K mg base 1 "_law_first_fault" 1 W_law_first_fault) (F_law_is_model : FD P w K mg base 2 "_law_is_model" 1 W_law_is_model) (F_law_field_fault : FD P w K mg base 3 "_law_field_fault" 1 W_law_field_fault) :
    FD P w K mg base 4 "_law_fault" 2 W_law_fault := by
  have sc : FnScope ["_law_which", "_law_given", "_law_found"] ["_law_which", "_law_given"] (defScope s_law_fault) := ⟨rfl, rfl, rfl, by decide +kernel, rfl, by decide +kernel, by decide +kernel⟩
  exact fd_ok mono_law_fault F sc hm len_law_fault (fun _ _ _ _ _ _ us hl => match us, hl with | [_, _], _ => rfl) (fun cdv A outer s H E so B hr tk => ⟨p_law_fault, (have hu := hr.units; (dss_cons (ds_if (db_lt (de_var 0) de_int) (dss_cons (ds_ret (de_ix rfl (de_lst (da_cons (de_tup (da_cons de_str (da_cons de_str da_nil))) (da_cons de_non da_nil))) (de_intOf (T.of "int") (da_cons (de_call F_law_is_model (hr.mono (by decide)) rfl tk (da_cons (de_ix rfl (de_var 1) de_int) da_nil)) da_nil))))
    dss_nil) dss_nil)
    (dss_cons (ds_set 2 sc.nd de_str)
    (dss_cons (ds_if (db_not (db_val (de_call F_law_is_model (hr.mono (by decide)) rfl tk (da_cons (de_ix rfl (de_var 1) de_int) da_nil)))) (dss_cons (ds_set 2 sc.nd (de_call F_law_field_fault (hr.mono (by decide)) rfl tk (da_cons (de_ix rfl (de_var 1) de_int) da_nil)))
    dss_nil) dss_nil)
    (dss_cons (ds_ret (de_call F_law_first_fault (hr.mono (by decide)) rfl tk (da_cons (de_lst (da_cons (de_tup (da_cons de_str (da_cons (de_var 2) da_nil))) da_nil)) da_nil)))
    dss_nil))))), sat_law_fault⟩)
theorem ok_law_plain {P : Program} {w : World} {K : PySem.W.Frag} {mg : Str → Option Value} {base : Heap} {f : Addr} {fd : FuncData}  (F : FunD K "_law_plain" "_law_plain" (defArgs s_law_plain) (defBody s_law_plain) (defScope s_law_plain) [] [] f fd) (hm : mg "_law_plain" = some (.ref f)) (T : Bt mg free) (Y : ErF K mg errs)  :
    FD P w K mg base 1 "_law_plain" 1 W_law_plain := by
  have sc : FnScope ["_law_row", "_law_odd_row", "_law_k", "_law_size_here", "_law_x", "_law_item", "_law_y"] ["_law_row"] (defScope s_law_plain) := ⟨rfl, rfl, rfl, by decide +kernel, rfl, by decide +kernel, by decide +kernel⟩
  exact fd_ok mono_law_plain F sc hm len_law_plain (fun _ _ _ _ _ _ us hl => match us, hl with | [_], _ => rfl) (fun cdv A outer s H E so B hr tk => ⟨p_law_plain, (have hu := hr.units; (dss_cons (ds_set 1 sc.nd (de_frz (de_lst (da_cons de_int da_nil))))
    (dss_cons (ds_for (passes_of rfl) rfl (di_range1 (T.of "range") (da_cons de_int da_nil)) (dg_name 2 sc.nd) (dss_cons (ds_set 1 sc.nd (de_frz (de_addA (de_var 1) (de_lcA 5 rfl sc.nd (di_list rfl (de_var 1)) (blkOk_of rfl) (fun _ _ _ _ _ => pg_name sc.nd rfl (by first | exact .inl rfl | exact .inr rfl)) (fun _ _ _ _ _ => (de_sub de_int (de_var 5)))))))
    dss_nil))
    (dss_cons (ds_set 3 sc.nd (de_len rfl (T.of "len") (da_cons (de_var 0) da_nil)))
    (dss_cons (ds_ret (de_lcA 4 rfl sc.nd (di_range1 (T.of "range") (da_cons (de_var 3) da_nil)) (blkOk_of rfl) (fun _ _ _ _ _ => pg_name sc.nd rfl (by first | exact .inl rfl | exact .inr rfl)) (fun _ _ _ _ _ => (de_sum rfl rfl (T.of "sum") (da_cons (de_lcA 6 rfl sc.nd (di_range1 (T.of "range") (da_cons (de_var 3) da_nil)) (blkOk_of rfl) (fun _ _ _ _ _ => pg_name sc.nd rfl (by first | exact .inl rfl | exact .inr rfl)) (fun _ _ _ _ _ => (de_mul (de_ix rfl (de_var 0) (de_var 6)) (de_sub de_int (de_mul de_int (de_ix rfl (de_var 1) (de_and2 (de_var 4) (de_var 6)))))))) da_nil)))))
    dss_nil))))), sat_law_plain⟩)
theorem ok_law_due {P : Program} {w : World} {K : PySem.W.Frag} {mg : Str → Option Value} {base : Heap} {f : Addr} {fd : FuncData}  (F : FunD K "_law_due" "_law_due" (defArgs s_law_due) (defBody s_law_due) (defScope s_law_due) [] [] f fd) (hm : mg "_law_due" = some (.ref f)) (T : Bt mg free) (Y : ErF K mg errs) (F_law_plain : FD P w K mg base 1 "_law_plain" 1 W_law_plain) (F_law_fault : FD P w K mg base 4 "_law_fault" 2 W_law_fault) :
    FD P w K mg base 5 "_law_due" 2 W_law_due := by
  have sc : FnScope ["_law_which", "_law_given", "_law_found", "_law_item"] ["_law_which", "_law_given"] (defScope s_law_due) := ⟨rfl, rfl, rfl, by decide +kernel, rfl, by decide +kernel, by decide +kernel⟩
  exact fd_ok mono_law_due F sc hm len_law_due (fun _ _ _ _ _ _ us hl => match us, hl with | [_, _], _ => rfl) (fun cdv A outer s H E so B hr tk => ⟨p_law_due, (have hu := hr.units; (dss_cons (ds_set 0 sc.nd (de_mod (de_intOf (T.of "int") (da_cons (de_var 0) da_nil)) de_int))
    (dss_cons (ds_set 2 sc.nd (de_call F_law_fault (hr.mono (by decide)) rfl tk (da_cons (de_var 0) (da_cons (de_var 1) da_nil))))
    (dss_cons (ds_if (db_notN (de_var 2) de_non) (dss_cons (ds_ret (de_tup (da_cons de_str (da_cons (de_var 2) da_nil))))
    dss_nil) dss_nil)
    (dss_cons (ds_if (db_eq hu rfl (de_var 0) de_int) (dss_cons (ds_ret (de_tup (da_cons de_str (da_cons (de_call F_law_plain (hr.mono (by decide)) rfl tk (da_cons (de_ix rfl (de_var 1) de_int) da_nil)) da_nil))))
    dss_nil) dss_nil)
    (dss_cons (ds_ret (de_tup (da_cons de_str (da_cons (de_call F_law_plain (hr.mono (by decide)) rfl tk (da_cons (de_lcA 3 rfl sc.nd (di_list rfl (de_ix rfl (de_ix rfl (de_var 1) de_int) de_int)) (blkOk_of rfl) (fun _ _ _ _ _ => pg_name sc.nd rfl (by first | exact .inl rfl | exact .inr rfl)) (fun _ _ _ _ _ => (de_sub de_int (de_mul de_int (de_var 3))))) da_nil)) da_nil))))
    dss_nil)))))), sat_law_due⟩)
theorem ok_law_ask {P : Program} {w : World} {K : PySem.W.Frag} {mg : Str → Option Value} {base : Heap} {f : Addr} {fd : FuncData}  (F : FunD K "_law_ask" "_law_ask" (defArgs s_law_ask) (defBody s_law_ask) (defScope s_law_ask) [] [] f fd) (hm : mg "_law_ask" = some (.ref f)) (T : Bt mg free) (Y : ErF K mg errs) (K_quick_field_field : FDK P w K mg base 5 "quick_field" 1 ["field"] [0] W_quick_field) (K_plain_scores_table : FDK P w K mg base 4 "plain_scores" 1 ["table"] [0] W_plain_scores) (K_scoresO_table : FDK P w K mg base 4 "scores" 1 ["table"] [0] W_scoresO) (F_quick_field : FD P w K mg base 5 "quick_field" 1 W_quick_field) (F_plain_scores : FD P w K mg base 4 "plain_scores" 1 W_plain_scores) (F_scoresO : FD P w K mg base 4 "scores" 1 W_scoresO) :
    FD P w K mg base 6 "_law_ask" 2 W_law_ask := by
  have sc : FnScope ["_law_which", "_law_given"] ["_law_which", "_law_given"] (defScope s_law_ask) := ⟨rfl, rfl, rfl, by decide +kernel, rfl, by decide +kernel, by decide +kernel⟩
  exact fd_ok mono_law_ask F sc hm len_law_ask (fun _ _ _ _ _ _ us hl => match us, hl with | [_, _], _ => rfl) (fun cdv A outer s H E so B hr tk => ⟨p_law_ask, (have hu := hr.units; (dss_cons (ds_if (db_eq hu rfl (de_var 0) de_int) (dss_cons (ds_ret (de_call F_scoresO (hr.mono (by decide)) rfl tk (da_cons (de_ix rfl (de_var 1) de_int) da_nil)))
    dss_nil) dss_nil)
    (dss_cons (ds_if (db_eq hu rfl (de_var 0) de_int) (dss_cons (ds_ret (de_call F_plain_scores (hr.mono (by decide)) rfl tk (da_cons (de_ix rfl (de_var 1) de_int) da_nil)))
    dss_nil) dss_nil)
    (dss_cons (ds_if (db_eq hu rfl (de_var 0) de_int) (dss_cons (ds_ret (de_call F_quick_field (hr.mono (by decide)) rfl tk (da_cons (de_ix rfl (de_var 1) de_int) da_nil)))
    dss_nil) dss_nil)
    (dss_cons (ds_if (db_eq hu rfl (de_var 0) de_int) (dss_cons (ds_ret (de_callK K_scoresO_table (hr.mono (by decide)) rfl tk (dk_cons (de_ix rfl (de_var 1) de_int) dk_nil) (fun ds hl => match ds, hl with | [_], _ => rfl)))
    dss_nil) dss_nil)
    (dss_cons (ds_if (db_eq hu rfl (de_var 0) de_int) (dss_cons (ds_ret (de_callK K_plain_scores_table (hr.mono (by decide)) rfl tk (dk_cons (de_ix rfl (de_var 1) de_int) dk_nil) (fun ds hl => match ds, hl with | [_], _ => rfl)))
    dss_nil) dss_nil)
    (dss_cons (ds_ret (de_callK K_quick_field_field (hr.mono (by decide)) rfl tk (dk_cons (de_ix rfl (de_var 1) de_int) dk_nil) (fun ds hl => match ds, hl with | [_], _ => rfl)))
    dss_nil))))))), sat_law_ask⟩)
theorem ok_law_refused {P : Program} {w : World} {K : PySem.W.Frag} {mg : Str → Option Value} {base : Heap} {f : Addr} {fd : FuncData}  (pn : Addr × Obj) (F : FunD K "_law_refused" "_law_refused" (defArgs s_law_refused) (defBody s_law_refused) (defScope s_law_refused) [] [] f fd) (hm : mg "_law_refused" = some (.ref f)) (T : Bt mg free) (Y : ErF K mg errs) (hXf : ∀ c, okX c = true → XfK K c) :
    FDP P w K mg base 1 "_law_refused" 1 pn (W_law_refused pn) := by
  have sc : FnScope ["_law_caught", "_law_names", "_law_held", "_law_found", "_law_k"] ["_law_caught"] (defScope s_law_refused) := ⟨rfl, rfl, rfl, by decide +kernel, rfl, by decide +kernel, by decide +kernel⟩
  exact fdp_ok (mono_law_refused pn) F sc hm (len_law_refused pn) (fun _ _ _ _ _ _ us hl => match us, hl with | [_], _ => rfl) (fun cdv A outer s H E so B hh hr tk => ⟨p_law_refused pn, (have hpn : pn ∈ [pn] := List.mem_cons_self; have hu := roomH_units hr; (dss_cons (ds_set 1 sc.nd (de_frz (de_lst (da_cons de_str (da_cons de_str (da_cons de_str (da_cons de_str (da_cons de_str (da_cons de_str (da_cons de_str (da_cons de_str da_nil)))))))))))
    (dss_cons (ds_set 1 sc.nd (de_frz (de_addA (de_var 1) (de_lst (da_cons de_str (da_cons de_str (da_cons de_str (da_cons de_str da_nil))))))))
    (dss_cons (ds_set 2 sc.nd (de_frz (de_lst (da_cons (de_isiC (T := "WrongKind") rfl (T.of "isinstance") (Y.mg "WrongKind" (by decide +kernel)) (Y.is (by decide +kernel)) (de_var 0)) (da_cons (de_isiC (T := "WrongSize") rfl (T.of "isinstance") (Y.mg "WrongSize" (by decide +kernel)) (Y.is (by decide +kernel)) (de_var 0)) (da_cons (de_isiC (T := "OutOfRange") rfl (T.of "isinstance") (Y.mg "OutOfRange" (by decide +kernel)) (Y.is (by decide +kernel)) (de_var 0)) da_nil))))))
    (dss_cons (ds_set 2 sc.nd (de_frz (de_addA (de_var 2) (de_lst (da_cons (de_isiC (T := "BadText") rfl (T.of "isinstance") (Y.mg "BadText" (by decide +kernel)) (Y.is (by decide +kernel)) (de_var 0)) (da_cons (de_isiC (T := "NotATable") rfl (T.of "isinstance") (Y.mg "NotATable" (by decide +kernel)) (Y.is (by decide +kernel)) (de_var 0)) (da_cons (de_isiC (T := "Spent") rfl (T.of "isinstance") (Y.mg "Spent" (by decide +kernel)) (Y.is (by decide +kernel)) (de_var 0)) da_nil)))))))
    (dss_cons (ds_set 2 sc.nd (de_frz (de_addA (de_var 2) (de_lst (da_cons (de_isiC (T := "TooFewPlaces") rfl (T.of "isinstance") (Y.mg "TooFewPlaces" (by decide +kernel)) (Y.is (by decide +kernel)) (de_var 0)) (da_cons (de_isiC (T := "WrongPaper") rfl (T.of "isinstance") (Y.mg "WrongPaper" (by decide +kernel)) (Y.is (by decide +kernel)) (de_var 0)) (da_cons (de_isiC (T := "UnknownName") rfl (T.of "isinstance") (Y.mg "UnknownName" (by decide +kernel)) (Y.is (by decide +kernel)) (de_var 0)) da_nil)))))))
    (dss_cons (ds_set 2 sc.nd (de_frz (de_addA (de_var 2) (de_lst (da_cons (de_isiC (T := "NameTaken") rfl (T.of "isinstance") (Y.mg "NameTaken" (by decide +kernel)) (Y.is (by decide +kernel)) (de_var 0)) (da_cons (de_isiC (T := "NothingToUndo") rfl (T.of "isinstance") (Y.mg "NothingToUndo" (by decide +kernel)) (Y.is (by decide +kernel)) (de_var 0)) (da_cons (de_isiC (T := "BookFull") rfl (T.of "isinstance") (Y.mg "BookFull" (by decide +kernel)) (Y.is (by decide +kernel)) (de_var 0)) da_nil)))))))
    (dss_cons (ds_setLcHR 3 4 ⟨pn, hh, hpn⟩ sc.nd (T.of "range") (da_cons de_int da_nil) (blkOk_of rfl) (fun _ _ _ _ _ => pg_name sc.nd rfl (by first | exact .inl rfl | exact .inr rfl)) (fun _ _ _ _ _ => (db_val (de_ix rfl (de_var 2) (de_var 4)))) (fun _ _ _ _ _ => (de_ix rfl (de_var 1) (de_var 4))))
    (dss_cons (ds_if (DW.db (dw_or (db_ne hu rfl (de_len rfl (T.of "len") (da_cons (de_var 3) da_nil)) de_int) (dw_or1 (db_not (db_val (de_isiT (T := "ValueError") (n := "ValueError") rfl (T.of "isinstance") (T.of "ValueError") (by decide +kernel) Y.isVE (de_var 0))))))) (dss_cons (ds_ret (de_tup (da_cons de_str (da_cons (de_var 3) da_nil))))
    dss_nil) dss_nil)
    (dss_cons (ds_if (db_in rfl (de_ix rfl (de_var 3) de_int) (de_slTo rfl (de_var 1) de_int)) (dss_cons (ds_ret (de_tup (da_cons (de_ix rfl (de_var 3) de_int) (da_cons (de_xf okX hXf rfl (de_var 0)) da_nil))))
    dss_nil) dss_nil)
    (dss_cons (ds_ret (de_tup (da_cons (de_ix rfl (de_var 3) de_int) (da_cons de_non da_nil))))
    dss_nil))))))))))), sat_law_refused pn⟩)
theorem ok_law_called {P : Program} {w : World} {K : PySem.W.Frag} {mg : Str → Option Value} {base : Heap} {f : Addr} {fd : FuncData}  (F : FunD K "_law_called" "_law_called" (defArgs s_law_called) (defBody s_law_called) (defScope s_law_called) [] [] f fd) (hm : mg "_law_called" = some (.ref f)) (T : Bt mg free) (Y : ErF K mg errs) (F_law_ask : FD P w K mg base 6 "_law_ask" 2 W_law_ask) (P_law_refused : ∀ pn, FDP P w K mg base 1 "_law_refused" 1 pn (W_law_refused pn)) :
    FD P w K mg base 7 "_law_called" 2 W_law_called := by
  have sc : FnScope ["_law_which", "_law_given", "_law_caught"] ["_law_which", "_law_given"] (defScope s_law_called) := ⟨rfl, rfl, rfl, by decide +kernel, rfl, by decide +kernel, by decide +kernel⟩
  exact fd_ok mono_law_called F sc hm len_law_called (fun _ _ _ _ _ _ us hl => match us, hl with | [_, _], _ => rfl) (fun cdv A outer s H E so B hr tk => ⟨p_law_called, (have hu := hr.units; (dss_cons (ds_try (c := "ShadeError") 2 rfl rfl sc.nd (Y.mg "ShadeError" (by decide +kernel)) Y.ca rfl tk (fun E0 pn0 xe0 tk => (dss_cons (ds_ret (de_tupD (da_cons de_str (da_cons (de_call F_law_ask (hr.mono (by decide)) rfl tk (da_cons (de_var 0) (da_cons (de_var 1) da_nil))) da_nil)) rfl))
    dss_nil))
    (fun a oe pn0 hcx hfv => (have tk : L2N.Takes (Cx.suite _ a ((a, oe) :: pn0)) (fun _ _ _ _ => False) := takes_no; have hh := hot_of hcx hfv; have hpn : (a, oe) ∈ (a, oe) :: pn0 := List.mem_cons_self; (dss_cons (ds_ret (de_tup (da_cons de_str (da_cons (de_callP (P_law_refused (a, oe)) (L2H.RoomH.mono (room_mark hr _) (by decide)) hh hpn rfl tk (da_cons (de_var 2) da_nil)) da_nil))))
    dss_nil))))
    dss_nil)), sat_law_called⟩)
theorem ok_law_right {P : Program} {w : World} {K : PySem.W.Frag} {mg : Str → Option Value} {base : Heap} {f : Addr} {fd : FuncData}  (F : FunD K "_law_right" "_law_right" (defArgs s_law_right) (defBody s_law_right) (defScope s_law_right) [] [] f fd) (hm : mg "_law_right" = some (.ref f)) (T : Bt mg free) (Y : ErF K mg errs) (X_law_spoil : FDx P w K mg base 5 "_law_spoil" true 5) (F_law_meets : FD P w K mg base 13 "_law_meets" 2 (W_law_meets 6)) (F_law_called : FD P w K mg base 7 "_law_called" 2 W_law_called) (F_law_is_model : FD P w K mg base 2 "_law_is_model" 1 W_law_is_model) (F_law_as_table : FD P w K mg base 12 "_law_as_table" 1 (W_law_as_table 5)) (F_law_due : FD P w K mg base 5 "_law_due" 2 W_law_due) :
    FD P w K mg base 14 "_law_right" 2 W_law_right := by
  have sc : FnScope ["_law_which", "_law_given", "_law_due_here", "_law_held", "_law_k", "_law_handed", "_law_told", "_law_j"] ["_law_which", "_law_given"] (defScope s_law_right) := ⟨rfl, rfl, rfl, by decide +kernel, rfl, by decide +kernel, by decide +kernel⟩
  exact fd_ok mono_law_right F sc hm len_law_right (fun _ _ _ _ _ _ us hl => match us, hl with | [_, _], _ => rfl) (fun cdv A outer s H E so B hr tk => ⟨p_law_right, (have hu := hr.units; (dss_cons (ds_set 2 sc.nd (de_call F_law_due (hr.mono (by decide)) rfl tk (da_cons (de_var 0) (da_cons (de_var 1) da_nil))))
    (dss_cons (ds_set 3 sc.nd (de_frz (de_call F_law_as_table (hr.mono (by decide)) rfl tk (da_cons (de_var 1) da_nil))))
    (dss_cons (ds_for (passes_of rfl) rfl (di_range1 (T.of "range") (da_cons de_int da_nil)) (dg_name 4 sc.nd) (dss_cons (ds_setLcO 5 7 rfl sc.nd (di_range1 (T.of "range") (da_cons (de_len rfl (T.of "len") (da_cons (de_var 1) da_nil)) da_nil)) (blkOk_of rfl) (fun _ _ _ _ _ => pg_name sc.nd rfl (by first | exact .inl rfl | exact .inr rfl)) (fun _ _ _ _ _ => (de_ifExp (db_val (de_call F_law_is_model (hr.mono (by decide)) rfl takes_no (da_cons (de_ix rfl (de_var 1) (de_var 7)) da_nil))) (de_ix rfl (de_var 3) (de_var 7)) (de_call F_law_as_table (hr.mono (by decide)) rfl takes_no (da_cons (de_ix rfl (de_var 1) (de_var 7)) da_nil)))))
    (dss_cons (ds_set 6 sc.nd (de_lendID [true, false, false, false, false, true, false, false] (fun B2 H2 => (de_call F_law_called (hr.mono (by decide)) rfl takes_no (da_cons (de_var 0) (da_cons (de_var 5) da_nil))))))
    (dss_cons (ds_if (DW.db (dw_or (db_ne hu rfl (de_lendI [false, false, false, false, false, false, true, false] (fun B2 H2 => (de_ix rfl (de_var 6) de_int))) (de_ix rfl (de_var 2) de_int)) (dw_or (db_not (db_val (de_lendI [false, false, true, false, false, false, true, false] (fun B2 H2 => (de_call F_law_meets (hr.mono (by decide)) rfl takes_no (da_cons (de_ix rfl (de_var 6) de_int) (da_cons (de_ix rfl (de_var 2) de_int) da_nil))))))) (dw_or1 (db_not (db_val (de_lendI [false, true, false, false, false, true, false, false] (fun B2 H2 => (de_call F_law_meets (hr.mono (by decide)) rfl takes_no (da_cons (de_var 5) (da_cons (de_var 1) da_nil))))))))))) (dss_cons (ds_ret de_bl)
    dss_nil) dss_nil)
    (dss_cons (ds_spoilX 5 X_law_spoil (hr.mono (by decide)) rfl)
    (dss_cons (ds_if (db_not (db_val (de_lendI [false, false, true, false, false, false, true, false] (fun B2 H2 => (de_call F_law_meets (hr.mono (by decide)) rfl takes_no (da_cons (de_ix rfl (de_var 6) de_int) (da_cons (de_ix rfl (de_var 2) de_int) da_nil))))))) (dss_cons (ds_ret de_bl)
    dss_nil) dss_nil)
    (dss_cons (ds_spoilEX X_law_spoil (hr.mono (by decide)) rfl (de_mvIx 6 1 rfl de_int))
    dss_nil)))))))
    (dss_cons (ds_ret de_bl)
    dss_nil))))), sat_law_right⟩)
theorem ok_law_some_bits {P : Program} {w : World} {K : PySem.W.Frag} {mg : Str → Option Value} {base : Heap} {f : Addr} {fd : FuncData}  (F : FunD K "_law_some_bits" "_law_some_bits" (defArgs s_law_some_bits) (defBody s_law_some_bits) (defScope s_law_some_bits) [] [] f fd) (hm : mg "_law_some_bits" = some (.ref f)) (T : Bt mg free) (Y : ErF K mg errs) (F_law_parity : FD P w K mg base 2 "_law_parity" 2 W_law_parity) (F_law_take : FD P w K mg base 3 "_law_take" 2 W_law_take) :
    FD P w K mg base 4 "_law_some_bits" 2 W_law_some_bits := by
  have sc : FnScope ["_law_store_here", "_law_wide_here", "_law_size_here", "_law_kind", "_law_told", "_law_row", "_law_x"] ["_law_store_here", "_law_wide_here"] (defScope s_law_some_bits) := ⟨rfl, rfl, rfl, by decide +kernel, rfl, by decide +kernel, by decide +kernel⟩
  exact fd_ok mono_law_some_bits F sc hm len_law_some_bits (fun _ _ _ _ _ _ us hl => match us, hl with | [_, _], _ => rfl) (fun cdv A outer s H E so B hr tk => ⟨p_law_some_bits, (have hu := hr.units; (dss_cons (ds_set 2 sc.nd (de_shl de_int (de_var 1)))
    (dss_cons (ds_set 3 sc.nd (de_call F_law_take (hr.mono (by decide)) rfl tk (da_cons (de_var 0) (da_cons de_int da_nil))))
    (dss_cons (ds_set 4 sc.nd (de_call F_law_take (hr.mono (by decide)) rfl tk (da_cons (de_var 0) (da_cons (de_shl de_int (de_var 2)) da_nil))))
    (dss_cons (ds_if (db_eq hu rfl (de_var 3) de_int) (dss_cons (ds_set 4 sc.nd (de_ix rfl (de_lst (da_cons de_int (da_cons (de_sub (de_shl de_int (de_var 2)) de_int) da_nil))) (de_and2 (de_var 4) de_int)))
    dss_nil) dss_nil)
    (dss_cons (ds_setLcA 5 6 rfl sc.nd (di_range1 (T.of "range") (da_cons (de_var 2) da_nil)) (blkOk_of rfl) (fun _ _ _ _ _ => pg_name sc.nd rfl (by first | exact .inl rfl | exact .inr rfl)) (fun _ _ _ _ _ => (de_and2 (de_shr (de_var 4) (de_var 6)) de_int)))
    (dss_cons (ds_if (DW.db (dw_and (db_lt (de_var 3) de_int) (dw_and1 (db_gt (de_var 3) de_int)))) (dss_cons (ds_setLcA 5 6 rfl sc.nd (di_range1 (T.of "range") (da_cons (de_var 2) da_nil)) (blkOk_of rfl) (fun _ _ _ _ _ => pg_name sc.nd rfl (by first | exact .inl rfl | exact .inr rfl)) (fun _ _ _ _ _ => (de_xor2 (de_call F_law_parity (hr.mono (by decide)) rfl takes_no (da_cons (de_and2 (de_var 4) (de_sub (de_var 2) de_int)) (da_cons (de_var 6) da_nil))) (de_and2 (de_shr (de_var 4) (de_var 1)) de_int))))
    dss_nil) dss_nil)
    (dss_cons (ds_if (db_eq hu rfl (de_var 3) de_int) (dss_cons (ds_setix 5 rfl de_int (de_and2 (de_shr (de_var 4) (de_var 1)) (de_sub (de_var 2) de_int)))
    dss_nil) dss_nil)
    (dss_cons (ds_ret (de_var 5))
    dss_nil))))))))), sat_law_some_bits⟩)
theorem ok_law_model {P : Program} {w : World} {K : PySem.W.Frag} {mg : Str → Option Value} {base : Heap} {f : Addr} {fd : FuncData}  (F : FunD K "_law_model" "_law_model" (defArgs s_law_model) (defBody s_law_model) (defScope s_law_model) [] [] f fd) (hm : mg "_law_model" = some (.ref f)) (T : Bt mg free) (Y : ErF K mg errs) (F_law_some_bits : FD P w K mg base 4 "_law_some_bits" 2 W_law_some_bits) (F_law_width : FD P w K mg base 4 "_law_width" 3 W_law_width) :
    FD P w K mg base 5 "_law_model" 2 W_law_model := by
  have sc : FnScope ["_law_store_here", "_law_most", "_law_wide_here"] ["_law_store_here", "_law_most"] (defScope s_law_model) := ⟨rfl, rfl, rfl, by decide +kernel, rfl, by decide +kernel, by decide +kernel⟩
  exact fd_ok mono_law_model F sc hm len_law_model (fun _ _ _ _ _ _ us hl => match us, hl with | [_, _], _ => rfl) (fun cdv A outer s H E so B hr tk => ⟨p_law_model, (have hu := hr.units; (dss_cons (ds_set 2 sc.nd (de_call F_law_width (hr.mono (by decide)) rfl tk (da_cons (de_var 0) (da_cons de_int (da_cons (de_var 1) da_nil)))))
    (dss_cons (ds_ret (de_tup (da_cons (de_var 2) (da_cons (de_call F_law_some_bits (hr.mono (by decide)) rfl tk (da_cons (de_var 0) (da_cons (de_var 2) da_nil))) da_nil))))
    dss_nil))), sat_law_model⟩)
theorem ok_law_odd_tableM {P : Program} {w : World} {K : PySem.W.Frag} {mg : Str → Option Value} {base : Heap} {f : Addr} {fd : FuncData}  (F : FunD K "_law_odd_table" "_law_odd_table" (defArgs s_law_odd_table) (defBody s_law_odd_table) (defScope s_law_odd_table) [] [] f fd) (hm : mg "_law_odd_table" = some (.ref f)) (T : Bt mg free) (Y : ErF K mg errs) (F_law_take : FD P w K mg base 3 "_law_take" 2 W_law_take) :
    FD P w K mg base 4 "_law_odd_table" 2 W_law_odd_tableM := by
  have sc : FnScope ["_law_store_here", "_law_given"] ["_law_store_here", "_law_given"] (defScope s_law_odd_table) := ⟨rfl, rfl, rfl, by decide +kernel, rfl, by decide +kernel, by decide +kernel⟩
  exact fd_ok mono_law_odd_tableM F sc hm len_law_odd_tableM (fun _ _ _ _ _ _ us hl => match us, hl with | [_, _], _ => rfl) (fun cdv A outer s H E so B hr tk => ⟨p_law_odd_tableM, (have hu := hr.units; (dss_cons (ds_ret (de_ix rfl (de_lst (da_cons de_non (da_cons de_int (da_cons (de_list rfl (T.of "list") (da_cons (de_ix rfl (de_var 1) de_int) da_nil)) (da_cons (de_tuple rfl (T.of "tuple") (da_cons (de_ix rfl (de_var 1) de_int) da_nil)) (da_cons de_str (da_cons de_bl (da_cons (de_pow de_int de_int) (da_cons de_dnew da_nil))))))))) (de_call F_law_take (hr.mono (by decide)) rfl tk (da_cons (de_var 0) (da_cons de_int da_nil)))))
    dss_nil)), sat_law_odd_tableM⟩)
theorem ok_law_odd_fieldX {P : Program} {w : World} {K : PySem.W.Frag} {mg : Str → Option Value} {base : Heap} {f : Addr} {fd : FuncData}  (F : FunD K "_law_odd_field" "_law_odd_field" (defArgs s_law_odd_field) (defBody s_law_odd_field) (defScope s_law_odd_field) [] [] f fd) (hm : mg "_law_odd_field" = some (.ref f)) (T : Bt mg free) (Y : ErF K mg errs) (F_law_as_row : FD P w K mg base 4 "_law_as_row" 2 W_law_as_row) (F_law_take : FD P w K mg base 3 "_law_take" 2 W_law_take) (F_law_odd_numberN : FD P w K mg base 4 "_law_odd_number" 3 W_law_odd_numberN) (F_law_near : FD P w K mg base 4 "_law_near" 3 W_law_near) :
    FD P w K mg base 5 "_law_odd_field" 2 W_law_odd_fieldX := by
  have sc : FnScope ["_law_store_here", "_law_row", "_law_kind", "_law_found", "_law_item", "_law_size_here", "_law_k"] ["_law_store_here", "_law_row"] (defScope s_law_odd_field) := ⟨rfl, rfl, rfl, by decide +kernel, rfl, by decide +kernel, by decide +kernel⟩
  exact fd_ok mono_law_odd_fieldX F sc hm len_law_odd_fieldX (fun _ _ _ _ _ _ us hl => match us, hl with | [_, _], _ => rfl) (fun cdv A outer s H E so B hr tk => ⟨p_law_odd_fieldX, (have hu := hr.units; (dss_cons (ds_set 2 sc.nd (de_call F_law_take (hr.mono (by decide)) rfl tk (da_cons (de_var 0) (da_cons de_int da_nil))))
    (dss_cons (ds_set 3 sc.nd (de_list rfl (T.of "list") (da_cons (de_var 1) da_nil)))
    (dss_cons (ds_if (db_eq hu rfl (de_var 2) de_int) (dss_cons (ds_ret (de_ix rfl (de_lst (da_cons de_non (da_cons de_int (da_cons de_str (da_cons de_bl (da_cons (de_tup (da_cons de_int (da_cons (de_lst (da_cons de_int (da_cons de_int (da_cons de_int (da_cons de_int da_nil))))) da_nil))) (da_cons de_dicII da_nil))))))) (de_call F_law_take (hr.mono (by decide)) rfl tk (da_cons (de_var 0) (da_cons de_int da_nil)))))
    dss_nil) dss_nil)
    (dss_cons (ds_if (db_lt (de_var 2) de_int) (dss_cons (ds_set 4 sc.nd (de_ix rfl (de_var 1) (de_call F_law_take (hr.mono (by decide)) rfl tk (da_cons (de_var 0) (da_cons (de_len rfl (T.of "len") (da_cons (de_var 1) da_nil)) da_nil)))))
    (dss_cons (ds_set 5 sc.nd (de_ix rfl (de_lst (da_cons de_int (da_cons (de_sub (de_len rfl (T.of "len") (da_cons (de_var 1) da_nil)) de_int) (da_cons (de_addA (de_len rfl (T.of "len") (da_cons (de_var 1) da_nil)) de_int) (da_cons de_int (da_cons de_int (da_cons de_int (da_cons de_int (da_cons de_int da_nil))))))))) (de_call F_law_take (hr.mono (by decide)) rfl tk (da_cons (de_var 0) (da_cons de_int da_nil)))))
    (dss_cons (ds_set 3 sc.nd (de_slTo rfl (de_addA (de_var 3) (de_lcA 6 rfl sc.nd (di_range1 (T.of "range") (da_cons de_int da_nil)) (blkOk_of rfl) (fun _ _ _ _ _ => pg_name sc.nd rfl (by first | exact .inl rfl | exact .inr rfl)) (fun _ _ _ _ _ => (de_var 4)))) (de_var 5)))
    dss_nil))) dss_nil)
    (dss_cons (ds_if (DW.db (dw_and (db_gt (de_var 2) de_int) (dw_and1 (db_gt (de_lenO 3 rfl (T.of "len")) de_int)))) (dss_cons (ds_for (passes_of rfl) rfl (di_range1 (T.of "range") (da_cons (de_addA de_int (de_call F_law_take (hr.mono (by decide)) rfl tk (da_cons (de_var 0) (da_cons de_int da_nil)))) da_nil)) (dg_name 6 sc.nd) (dss_cons (ds_setix 3 rfl (de_call F_law_odd_numberN (hr.mono (by decide)) rfl tk (da_cons (de_var 0) (da_cons de_non (da_cons de_non da_nil)))) (de_call F_law_near (hr.mono (by decide)) rfl tk (da_cons (de_var 0) (da_cons de_int (da_cons (de_sub (de_lenO 3 rfl (T.of "len")) de_int) da_nil)))))
    dss_nil))
    dss_nil) dss_nil)
    (dss_cons (ds_ret (de_call F_law_as_row (hr.mono (by decide)) rfl tk (da_cons (de_var 0) (da_cons (de_var 3) da_nil))))
    dss_nil))))))), sat_law_odd_fieldX⟩)
theorem ok_law_signs {P : Program} {w : World} {K : PySem.W.Frag} {mg : Str → Option Value} {base : Heap} {f : Addr} {fd : FuncData}  (F : FunD K "_law_signs" "_law_signs" (defArgs s_law_signs) (defBody s_law_signs) (defScope s_law_signs) [] [] f fd) (hm : mg "_law_signs" = some (.ref f)) (T : Bt mg free) (Y : ErF K mg errs) (F_law_as_row : FD P w K mg base 4 "_law_as_row" 2 W_law_as_row) :
    FD P w K mg base 5 "_law_signs" 2 W_law_signs := by
  have sc : FnScope ["_law_store_here", "_law_given", "_law_item"] ["_law_store_here", "_law_given"] (defScope s_law_signs) := ⟨rfl, rfl, rfl, by decide +kernel, rfl, by decide +kernel, by decide +kernel⟩
  exact fd_ok mono_law_signs F sc hm len_law_signs (fun _ _ _ _ _ _ us hl => match us, hl with | [_, _], _ => rfl) (fun cdv A outer s H E so B hr tk => ⟨p_law_signs, (have hu := hr.units; (dss_cons (ds_ret (de_call F_law_as_row (hr.mono (by decide)) rfl tk (da_cons (de_var 0) (da_cons (de_lcA 2 rfl sc.nd (di_list rfl (de_ix rfl (de_var 1) de_int)) (blkOk_of rfl) (fun _ _ _ _ _ => pg_name sc.nd rfl (by first | exact .inl rfl | exact .inr rfl)) (fun _ _ _ _ _ => (de_sub de_int (de_mul de_int (de_var 2))))) da_nil))))
    dss_nil)), sat_law_signs⟩)
theorem ok_law_shared {P : Program} {w : World} {K : PySem.W.Frag} {mg : Str → Option Value} {base : Heap} {f : Addr} {fd : FuncData}  (F : FunD K "_law_shared" "_law_shared" (defArgs s_law_shared) (defBody s_law_shared) (defScope s_law_shared) [] [] f fd) (hm : mg "_law_shared" = some (.ref f)) (T : Bt mg free) (Y : ErF K mg errs) (F_law_meets : FD P w K mg base 13 "_law_meets" 2 (W_law_meets 6)) (X_law_spoil : FDx P w K mg base 5 "_law_spoil" true 5) (F_law_sameD : FD P w K mg base 6 "_law_same" 2 (W_law_sameD 6)) (M_Table_signs : FDm P w K mg base 1 "Table" "signs" 1 W_Table_signs) (F_quick_field : FD P w K mg base 5 "quick_field" 1 W_quick_field) (F_law_ask : FD P w K mg base 6 "_law_ask" 2 W_law_ask) (F_law_take : FD P w K mg base 3 "_law_take" 2 W_law_take) (F_law_due : FD P w K mg base 5 "_law_due" 2 W_law_due) (F_law_as_table : FD P w K mg base 12 "_law_as_table" 1 (W_law_as_table 5)) :
    FD P w K mg base 14 "_law_shared" 2 W_law_shared := by
  have sc : FnScope ["_law_store_here", "_law_two", "_law_held", "_law_due_here", "_law_k", "_law_one", "_law_which", "_law_told", "_law_item"] ["_law_store_here", "_law_two"] (defScope s_law_shared) := ⟨rfl, rfl, rfl, by decide +kernel, rfl, by decide +kernel, by decide +kernel⟩
  exact fd_ok mono_law_shared F sc hm len_law_shared (fun _ _ _ _ _ _ us hl => match us, hl with | [_, _], _ => rfl) (fun cdv A outer s H E so B hr tk => ⟨p_law_shared, (have hu := hr.units; (dss_cons (ds_set 2 sc.nd (de_frz (de_call F_law_as_table (hr.mono (by decide)) rfl tk (da_cons (de_var 1) da_nil))))
    (dss_cons (ds_setLcA 3 8 rfl sc.nd (di_list rfl (de_var 1)) (blkOk_of rfl) (fun _ _ _ _ _ => pg_name sc.nd rfl (by first | exact .inl rfl | exact .inr rfl)) (fun _ _ _ _ _ => (de_ix rfl (de_call F_law_due (hr.mono (by decide)) rfl takes_no (da_cons de_int (da_cons (de_lst (da_cons (de_var 8) da_nil)) da_nil))) de_int)))
    (dss_cons (ds_for (passes_of rfl) rfl (di_range1 (T.of "range") (da_cons de_int da_nil)) (dg_name 4 sc.nd) (dss_cons (ds_set 5 sc.nd (de_call F_law_take (hr.mono (by decide)) rfl tk (da_cons (de_var 0) (da_cons de_int da_nil))))
    (dss_cons (ds_set 6 sc.nd (de_call F_law_take (hr.mono (by decide)) rfl tk (da_cons (de_var 0) (da_cons de_int da_nil))))
    (dss_cons (ds_if (db_eq hu rfl (de_var 6) de_int) (dss_cons (ds_set 7 sc.nd (de_call F_quick_field (hr.mono (by decide)) rfl tk (da_cons (de_meth0 M_Table_signs (hr.mono (by decide)) rfl tk (fun _ _ => rfl) (de_ix rfl (de_var 2) (de_var 5))) da_nil)))
    dss_nil) (dss_cons (ds_set 7 sc.nd (de_call F_law_ask (hr.mono (by decide)) rfl tk (da_cons (de_var 6) (da_cons (de_lst (da_cons (de_ix rfl (de_var 2) (de_var 5)) da_nil)) da_nil))))
    dss_nil))
    (dss_cons (ds_if (db_not (db_val (de_lend [false, false, false, true, false, true, false, true, false] (fun B2 H2 => (de_call F_law_sameD (hr.mono (by decide)) rfl takes_no (da_cons (de_var 7) (da_cons (de_ix rfl (de_var 3) (de_var 5)) da_nil))))))) (dss_cons (ds_ret de_bl)
    dss_nil) dss_nil)
    (dss_cons (ds_spoilX 7 X_law_spoil (hr.mono (by decide)) rfl)
    dss_nil))))))
    (dss_cons (ds_ret (de_call F_law_meets (hr.mono (by decide)) rfl tk (da_cons (de_var 2) (da_cons (de_var 1) da_nil))))
    dss_nil))))), sat_law_shared⟩)
theorem mono_store_call : Mono (wCall W_law_store (wCons (wVar 0) wNil)) := wCall_mono mono_law_store (fun ρ Q Q' E E' hq he h => by
  unfold wCons wVar at h ⊢
  split at h
  · exact h.elim
  · exact h.elim
  · exact hq _ _ h)
theorem sat_store_call : ∀ ns, (wCall W_law_store (wCons (wVar 0) wNil)) (entry 8 [.scr ns]) (fun z ρ1 => ρ1 = entry 8 [.scr ns] ∧ ∃ q m, z = .ow q [.lst (ns.map .int), .int 0, .int 0, .int m, .int 0]) noE := by
  intro ns
  refine (show W_law_store [.scr ns] _ _ from ⟨⟨ns, rfl⟩, fun z ⟨ns', q, m, e, ez⟩ => ?_, fun _ z => z.elim⟩)
  cases e
  exact ⟨rfl, q, m, ez⟩
theorem ok_law {P : Program} {w : World} {K : PySem.W.Frag} {mg : Str → Option Value} {base : Heap} {f : Addr} {fd : FuncData}  (F : FunD K "law" "law" (defArgs s_law) (defBody s_law) (defScope s_law) [] [] f fd) (T : Bt mg free) (Y : ErF K mg errs) (F_law_model : FD P w K mg base 5 "_law_model" 2 W_law_model) (F_law_shared : FD P w K mg base 14 "_law_shared" 2 W_law_shared) (F_law_odd_fieldX : FD P w K mg base 5 "_law_odd_field" 2 W_law_odd_fieldX) (F_law_right : FD P w K mg base 14 "_law_right" 2 W_law_right) (F_law_odd_tableM : FD P w K mg base 4 "_law_odd_table" 2 W_law_odd_tableM) (F_law_signs : FD P w K mg base 5 "_law_signs" 2 W_law_signs) (F_law_take : FD P w K mg base 3 "_law_take" 2 W_law_take) (F_law_store : FD P w K mg base 1 "_law_store" 1 W_law_store) (sp : Sp) (hsp : ∀ vs H Q E, sp vs H Q E → ∃ (p : Addr) (ns : List Int), vs = [.ref p] ∧ SqL K H p (ns.map V.int) ∧ ∀ H', Q (.bl true) H') :
    FnOk P w K mg base (L2N.CX P w) 15 f fd ["_law_script"] sp := by
  have sc : FnScope ["_law_script", "_law_store_here", "_law_one", "_law_which", "_law_k", "_law_two", "_law_way", "_law_row"] ["_law_script"] (defScope s_law) := ⟨rfl, rfl, rfl, by decide +kernel, rfl, by decide +kernel, by decide +kernel⟩
  exact law_ok (we := (wCall W_law_store (wCons (wVar 0) wNil))) (u := p_law) F sc sp hsp (fun cdv A outer s H E hr tk G g1 g2 => by
    obtain ⟨K1, so, B, H1, E1⟩ := G
    cases g1; cases g2
    have hu := hr.units
    exact ⟨(ds_set 1 sc.nd (de_call F_law_store (hr.mono (by decide)) rfl tk (da_cons (de_var 0) da_nil))),
      (dss_cons (ds_set 2 sc.nd (de_call F_law_model (hr.mono (by decide)) rfl tk (da_cons (de_var 1) (da_cons de_int da_nil))))
    (dss_cons (ds_for (passes_of rfl) rfl (di_range1 (T.of "range") (da_cons de_int da_nil)) (dg_name 3 sc.nd) (dss_cons (ds_if (db_not (db_val (de_call F_law_right (hr.mono (by decide)) rfl tk (da_cons (de_addA (de_var 3) (de_mul de_int (de_call F_law_take (hr.mono (by decide)) rfl tk (da_cons (de_var 1) (da_cons de_int da_nil))))) (da_cons (de_lst (da_cons (de_var 2) da_nil)) da_nil))))) (dss_cons (ds_ret de_bl)
    dss_nil) dss_nil)
    dss_nil))
    (dss_cons (ds_if (db_not (db_val (de_call F_law_right (hr.mono (by decide)) rfl tk (da_cons (de_addA de_int (de_mul de_int (de_call F_law_take (hr.mono (by decide)) rfl tk (da_cons (de_var 1) (da_cons de_int da_nil))))) (da_cons (de_lst (da_cons (de_call F_law_signs (hr.mono (by decide)) rfl tk (da_cons (de_var 1) (da_cons (de_var 2) da_nil))) da_nil)) da_nil))))) (dss_cons (ds_ret de_bl)
    dss_nil) dss_nil)
    (dss_cons (ds_for (passes_of rfl) rfl (di_range1 (T.of "range") (da_cons de_int da_nil)) (dg_name 4 sc.nd) (dss_cons (ds_set 5 sc.nd (de_call F_law_model (hr.mono (by decide)) rfl tk (da_cons (de_var 1) (da_cons de_int da_nil))))
    (dss_cons (ds_set 3 sc.nd (de_call F_law_take (hr.mono (by decide)) rfl tk (da_cons (de_var 1) (da_cons de_int da_nil))))
    (dss_cons (ds_set 6 sc.nd (de_mul de_int (de_call F_law_take (hr.mono (by decide)) rfl tk (da_cons (de_var 1) (da_cons de_int da_nil)))))
    (dss_cons (ds_set 7 sc.nd (de_call F_law_signs (hr.mono (by decide)) rfl tk (da_cons (de_var 1) (da_cons (de_var 5) da_nil))))
    (dss_cons (ds_if (DW.db (dw_or (db_not (db_val (de_call F_law_right (hr.mono (by decide)) rfl tk (da_cons (de_addA (de_var 6) (de_var 3)) (da_cons (de_lst (da_cons (de_call F_law_odd_tableM (hr.mono (by decide)) rfl tk (da_cons (de_var 1) (da_cons (de_var 5) da_nil))) da_nil)) da_nil))))) (dw_or1 (db_not (db_val (de_call F_law_right (hr.mono (by decide)) rfl tk (da_cons (de_addA (de_var 6) (de_var 3)) (da_cons (de_lst (da_cons (de_var 5) da_nil)) da_nil)))))))) (dss_cons (ds_ret de_bl)
    dss_nil) dss_nil)
    (dss_cons (ds_if (DW.db (dw_or (db_not (db_val (de_call F_law_right (hr.mono (by decide)) rfl tk (da_cons (de_addA (de_var 6) de_int) (da_cons (de_lst (da_cons (de_call F_law_odd_fieldX (hr.mono (by decide)) rfl tk (da_cons (de_var 1) (da_cons (de_list rfl (T.of "list") (da_cons (de_var 7) da_nil)) da_nil))) da_nil)) da_nil))))) (dw_or1 (db_not (db_val (de_call F_law_right (hr.mono (by decide)) rfl tk (da_cons (de_addA (de_var 6) de_int) (da_cons (de_lst (da_cons (de_var 7) da_nil)) da_nil)))))))) (dss_cons (ds_ret de_bl)
    dss_nil) dss_nil)
    dss_nil)))))))
    (dss_cons (ds_ret (de_call F_law_shared (hr.mono (by decide)) rfl tk (da_cons (de_var 1) (da_cons (de_lst (da_cons (de_call F_law_model (hr.mono (by decide)) rfl tk (da_cons (de_var 1) (da_cons de_int da_nil))) (da_cons (de_call F_law_model (hr.mono (by decide)) rfl tk (da_cons (de_var 1) (da_cons de_int da_nil))) da_nil))) da_nil))))
    dss_nil)))))⟩) mono_store_call sat_store_call sat_law (by decide)
end C
set_option Elab.async false
set_option maxRecDepth 100000
set_option maxHeartbeats 4000000
set_option linter.unusedVariables false
namespace C
open PySem PySem.Spec PyProof.Rows L2 NdefX DL H19
abbrev PP : Program := PySem.Challenge.rw_bitshades_k19_scores_by_three_ways.prog
abbrev spL (K : PySem.W.Frag) : Sp := fun vs H Q _ => ∃ (p : Addr) (ns : List Int), vs = [.ref p] ∧ SqL K H p (ns.map V.int) ∧ ∀ H', Q (.bl true) H'
theorem facts {w : World} {K : PySem.W.Frag} {h : Heap} {mg : Str → Option Value} {f : Addr} (X : K.In h) (G : h.Ns mainGlobals mg) (hfa : mg ("law" : Str) = some (.ref f)) (cy : SaysY H19.ck H19.fn H19.ms K) :
    ∃ fd : FuncData, (∀ (s : Shared) (v : Value), BindsTo s fd ⟨[v], []⟩ [("_law_script", v)]) ∧ ∀ base : Heap, K.In base → base.Ns mainGlobals mg → FnOk PP w K mg base (L2N.CX PP w) 15 f fd ["_law_script"] (spL K) := by
  have c := cy.says
  have cc := c.chk
  unfold H19.ck at cc
  rw [Bool.and_eq_true] at cc
  obtain ⟨cc, co⟩ := cc
  unfold H19.ck12 at cc
  unfold H19.ck11 H19.ck13 H19.ck14 at co
  simp only [Bool.and_eq_true] at cc
  obtain ⟨c1, c2, c3, c4, c5, c6, c7, c8, c9, c10⟩ := cc
  have g : ∀ (i : Nat) {d : He.DefD}, H19.fn[i]? = some ⟨d, []⟩ → mg d.at_.1 = some (.ref (He.ga K d.at_.1)) := fun i d e => glosA_of X G c6 i e
  have T : Bt mg H19.free := bt_of X G c5
  have Y : ErF K mg C.errs := erF_of X G c1 c3 c4
  have hi : ∀ c, c ∈ H19.inis → iniB K PP.main.file c = true := fun c hc => List.all_eq_true.mp c2 c hc
  have ht : (PP.main.scope.names.lookup ("super" : Str)).isSome = false := by decide +kernel
  have hs : mg "super" = none := T.of "super"
  simp only [Bool.and_eq_true] at co
  obtain ⟨⟨co1, co2, co3⟩, co4, co5⟩ := co
  have hMs : ∀ (i : Nat) {m : MemD}, H19.ms[i]? = some m → memB K m = true := fun i m e => List.all_eq_true.mp co2 m (List.mem_of_getElem? e)
  obtain ⟨O_Table, hC_Table, hMk_Table, hSf_Table⟩ := ownB_ok (c := "Table") X G (List.all_eq_true.mp co1 _ (List.mem_of_getElem? (i := 0) rfl))
  have hIK : InsK K okI := insB_ok co4 (fun c hc => by unfold okI at hc; rw [beq_iff_eq] at hc; subst hc; decide +kernel) (fun c hc => by unfold H19.owns at hc; simp only [List.mem_cons, List.not_mem_nil, or_false] at hc; rcases hc with rfl <;> assumption)
  have hTc_FIELD_LENGTHS := tupB_ok X G (List.all_eq_true.mp co5 _ (List.mem_of_getElem? (i := 0) rfl))
  have hNo_wide : NoAttr K (He.ga K "Table") "wide" := He.noat_ok (List.all_eq_true.mp co3 ("Table", "wide") (List.mem_of_getElem? (i := 0) rfl))
  have hFl_wide : ∀ c, okT c = true → FldK K c "wide" := fun c hc => by
    have e : c = "Table" := of_decide_eq_true hc
    subst e
    exact ⟨hC_Table, hNo_wide⟩
  have hNo_held : NoAttr K (He.ga K "Table") "held" := He.noat_ok (List.all_eq_true.mp co3 ("Table", "held") (List.mem_of_getElem? (i := 1) rfl))
  have hFl_held : ∀ c, okT c = true → FldK K c "held" := fun c hc => by
    have e : c = "Table" := of_decide_eq_true hc
    subst e
    exact ⟨hC_Table, hNo_held⟩
  obtain ⟨fm0, M0⟩ := cy.mem 0 (m := H19.m_Table_init) rfl
  obtain ⟨fm1, M1⟩ := cy.mem 1 (m := H19.m_Table_width) rfl
  obtain ⟨fm2, M2⟩ := cy.mem 2 (m := H19.m_Table_bits) rfl
  obtain ⟨fm5, M5⟩ := cy.mem 5 (m := H19.m_Table_signs) rfl
  obtain ⟨tk_MOST_WIDTH, m_of_MOST_WIDTH⟩ := He.int_ok X G (List.all_eq_true.mp c7 _ (List.mem_of_getElem? (i := 0) rfl))
  have EX_OutOfRange := fun base : Heap => erc_of (P := PP) (w := w) (base := base) (c := "OutOfRange") (y := "argument") (hi "OutOfRange" (by decide +kernel)) (c.val 56 (d := H19.i_OutOfRange) rfl) c8 ht (Y.mg "OutOfRange" (by decide +kernel)) hs (nscope_by (by decide +kernel)) rfl
    (fun X hN hsc => pe_fsA (i := 0) (pe_var (i := 1) (by rw [hN]; rfl) (.inl (by rw [hsc]; rfl)))) (fsA (by decide +kernel)) (ar := _) rfl rfl rfl (fun env => rfl) rfl rfl rfl (fun _ _ _ _ _ _ _ _ _ us hl => match us, hl with | [_, _], _ => rfl)
  have EX_WrongKind := fun base : Heap => erc_of (P := PP) (w := w) (base := base) (c := "WrongKind") (y := "argument") (hi "WrongKind" (by decide +kernel)) (c.val 54 (d := H19.i_WrongKind) rfl) c8 ht (Y.mg "WrongKind" (by decide +kernel)) hs (nscope_by (by decide +kernel)) rfl
    (fun X hN hsc => pe_fsA (i := 0) (pe_var (i := 1) (by rw [hN]; rfl) (.inl (by rw [hsc]; rfl)))) (fsA (by decide +kernel)) (ar := _) rfl rfl rfl (fun env => rfl) rfl rfl rfl (fun _ _ _ _ _ _ _ _ _ us hl => match us, hl with | [_, _], _ => rfl)
  have EX_WrongSize := fun base : Heap => erc_of (P := PP) (w := w) (base := base) (c := "WrongSize") (y := "argument") (hi "WrongSize" (by decide +kernel)) (c.val 55 (d := H19.i_WrongSize) rfl) c8 ht (Y.mg "WrongSize" (by decide +kernel)) hs (nscope_by (by decide +kernel)) rfl
    (fun X hN hsc => pe_fsA (i := 0) (pe_var (i := 1) (by rw [hN]; rfl) (.inl (by rw [hsc]; rfl)))) (fsA (by decide +kernel)) (ar := _) rfl rfl rfl (fun env => rfl) rfl rfl rfl (fun _ _ _ _ _ _ _ _ _ us hl => match us, hl with | [_, _], _ => rfl)
  have hXf : ∀ c, okX c = true → XfK K c := fun c hc => by
    have hc2 : c ∈ C.inis := by unfold okX at hc; simpa using hc
    unfold C.inis at hc2
    simp only [List.mem_cons, List.not_mem_nil, or_false] at hc2
    rcases hc2 with rfl | rfl | rfl | rfl | rfl | rfl | rfl | rfl
    · obtain ⟨_, _, _, _, _, _, _, _, _, _, _, z⟩ := supC_of (P := PP) (hi "WrongKind" (by decide +kernel)) (c.val 54 (d := H19.i_WrongKind) rfl) c8 ht
      exact z
    · obtain ⟨_, _, _, _, _, _, _, _, _, _, _, z⟩ := supC_of (P := PP) (hi "WrongSize" (by decide +kernel)) (c.val 55 (d := H19.i_WrongSize) rfl) c8 ht
      exact z
    · obtain ⟨_, _, _, _, _, _, _, _, _, _, _, z⟩ := supC_of (P := PP) (hi "OutOfRange" (by decide +kernel)) (c.val 56 (d := H19.i_OutOfRange) rfl) c8 ht
      exact z
    · obtain ⟨_, _, _, _, _, _, _, _, _, _, _, z⟩ := supC_of (P := PP) (hi "BadText" (by decide +kernel)) (c.val 57 (d := H19.i_BadText) rfl) c8 ht
      exact z
    · obtain ⟨_, _, _, _, _, _, _, _, _, _, _, z⟩ := supC_of (P := PP) (hi "Spent" (by decide +kernel)) (c.val 58 (d := H19.i_Spent) rfl) c8 ht
      exact z
    · obtain ⟨_, _, _, _, _, _, _, _, _, _, _, z⟩ := supC_of (P := PP) (hi "WrongPaper" (by decide +kernel)) (c.val 60 (d := H19.i_WrongPaper) rfl) c8 ht
      exact z
    · obtain ⟨_, _, _, _, _, _, _, _, _, _, _, z⟩ := supC_of (P := PP) (hi "UnknownName" (by decide +kernel)) (c.val 61 (d := H19.i_UnknownName) rfl) c8 ht
      exact z
    · obtain ⟨_, _, _, _, _, _, _, _, _, _, _, z⟩ := supC_of (P := PP) (hi "NameTaken" (by decide +kernel)) (c.val 62 (d := H19.i_NameTaken) rfl) c8 ht
      exact z
  obtain ⟨fd1, F1⟩ := c.def_ 1 (d := H19.d_check_integer) rfl
  obtain ⟨fd2, F2⟩ := c.def_ 2 (d := H19.d_check_between) rfl
  obtain ⟨fd3, F3⟩ := c.def_ 3 (d := H19.d_check_width) rfl
  obtain ⟨fd5, F5⟩ := c.def_ 5 (d := H19.d_check_row_tables) rfl
  obtain ⟨fd6, F6⟩ := c.def_ 6 (d := H19.d_check_bits) rfl
  obtain ⟨fd7, F7⟩ := c.def_ 7 (d := H19.d_whole) rfl
  obtain ⟨fd8, F8⟩ := c.def_ 8 (d := H19.d_check_table) rfl
  obtain ⟨fd9, F9⟩ := c.def_ 9 (d := H19.d_check_row_shades) rfl
  obtain ⟨fd10, F10⟩ := c.def_ 10 (d := H19.d_check_field) rfl
  obtain ⟨fd11, F11⟩ := c.def_ 11 (d := H19.d_width_of_length) rfl
  obtain ⟨fd12, F12⟩ := c.def_ 12 (d := H19.d_parity_signs) rfl
  obtain ⟨fd13, F13⟩ := c.def_ 13 (d := H19.d_stepped) rfl
  obtain ⟨fd14, F14⟩ := c.def_ 14 (d := H19.d_all_steps) rfl
  obtain ⟨fd15, F15⟩ := c.def_ 15 (d := H19.d_summed) rfl
  obtain ⟨fd16, F16⟩ := c.def_ 16 (d := H19.d_plain_scores) rfl
  obtain ⟨fd17, F17⟩ := c.def_ 17 (d := H19.d_scores) rfl
  obtain ⟨fd18, F18⟩ := c.def_ 18 (d := H19.d_quick_field) rfl
  obtain ⟨fd19, F19⟩ := c.def_ 19 (d := H19.d_law_mixed) rfl
  obtain ⟨fd20, F20⟩ := c.def_ 20 (d := H19.d_law_wide) rfl
  obtain ⟨fd21, F21⟩ := c.def_ 21 (d := H19.d_law_store) rfl
  obtain ⟨fd22, F22⟩ := c.def_ 22 (d := H19.d_law_take) rfl
  obtain ⟨fd23, F23⟩ := c.def_ 23 (d := H19.d_law_near) rfl
  obtain ⟨fd24, F24⟩ := c.def_ 24 (d := H19.d_law_is_integer) rfl
  obtain ⟨fd25, F25⟩ := c.def_ 25 (d := H19.d_law_same) rfl
  obtain ⟨fd26, F26⟩ := c.def_ 26 (d := H19.d_law_spoil) rfl
  obtain ⟨fd27, F27⟩ := c.def_ 27 (d := H19.d_law_is_table) rfl
  obtain ⟨fd28, F28⟩ := c.def_ 28 (d := H19.d_law_size) rfl
  obtain ⟨fd29, F29⟩ := c.def_ 29 (d := H19.d_law_parity) rfl
  obtain ⟨fd30, F30⟩ := c.def_ 30 (d := H19.d_law_width) rfl
  obtain ⟨fd31, F31⟩ := c.def_ 31 (d := H19.d_law_as_row) rfl
  obtain ⟨fd32, F32⟩ := c.def_ 32 (d := H19.d_law_number_fault) rfl
  obtain ⟨fd33, F33⟩ := c.def_ 33 (d := H19.d_law_row_fault) rfl
  obtain ⟨fd34, F34⟩ := c.def_ 34 (d := H19.d_law_field_fault) rfl
  obtain ⟨fd35, F35⟩ := c.def_ 35 (d := H19.d_law_first_fault) rfl
  obtain ⟨fd36, F36⟩ := c.def_ 36 (d := H19.d_law_odd_number) rfl
  obtain ⟨fd37, F37⟩ := c.def_ 37 (d := H19.d_law_is_model) rfl
  obtain ⟨fd38, F38⟩ := c.def_ 38 (d := H19.d_law_as_table) rfl
  obtain ⟨fd39, F39⟩ := c.def_ 39 (d := H19.d_law_meets) rfl
  obtain ⟨fd40, F40⟩ := c.def_ 40 (d := H19.d_law_fault) rfl
  obtain ⟨fd41, F41⟩ := c.def_ 41 (d := H19.d_law_plain) rfl
  obtain ⟨fd42, F42⟩ := c.def_ 42 (d := H19.d_law_due) rfl
  obtain ⟨fd43, F43⟩ := c.def_ 43 (d := H19.d_law_ask) rfl
  obtain ⟨fd44, F44⟩ := c.def_ 44 (d := H19.d_law_refused) rfl
  obtain ⟨fd45, F45⟩ := c.def_ 45 (d := H19.d_law_called) rfl
  obtain ⟨fd46, F46⟩ := c.def_ 46 (d := H19.d_law_right) rfl
  obtain ⟨fd47, F47⟩ := c.def_ 47 (d := H19.d_law_some_bits) rfl
  obtain ⟨fd48, F48⟩ := c.def_ 48 (d := H19.d_law_model) rfl
  obtain ⟨fd49, F49⟩ := c.def_ 49 (d := H19.d_law_odd_table) rfl
  obtain ⟨fd50, F50⟩ := c.def_ 50 (d := H19.d_law_odd_field) rfl
  obtain ⟨fd51, F51⟩ := c.def_ 51 (d := H19.d_law_signs) rfl
  obtain ⟨fd52, F52⟩ := c.def_ 52 (d := H19.d_law_shared) rfl
  obtain ⟨fd53, F53⟩ := c.def_ 53 (d := H19.d_law) rfl
  have e := hfa.symm.trans (g 53 rfl)
  cases e
  have b := FunD.bindsA (ps := ["_law_script"]) F53 fun _ _ _ _ _ _ us hl => match us, hl with | [_], _ => rfl
  refine ⟨fd53, fun s v => b s [v] rfl, fun base _ _ => ?_⟩
  have hsp : ∀ vs H Q E, spL K vs H Q E → ∃ (p : Addr) (ns : List Int), vs = [.ref p] ∧ SqL K H p (ns.map V.int) ∧ ∀ H', Q (.bl true) H' := fun _ _ _ _ z => z
  have sp := spL K
  have E_OutOfRange := (EX_OutOfRange base).1
  have E_WrongKind := (EX_WrongKind base).1
  have E_WrongSize := (EX_WrongSize base).1
  have G_Table_width := ok_Table_width (P := PP) (w := w) (base := base) M1 T Y (hFl_wide := hFl_wide) hC_Table (memB_get (hMs 1 rfl) rfl)
  have G_Table_bits := ok_Table_bits (P := PP) (w := w) (base := base) M2 T Y (hFl_held := hFl_held) hC_Table (memB_get (hMs 2 rfl) rfl)
  have M_Table_signs := ok_Table_signs (P := PP) (w := w) (base := base) M5 T Y (hFl_held := hFl_held) hC_Table (memB_meth (hMs 5 rfl) rfl)
  have F_whole := ok_whole (P := PP) (w := w) (base := base) F7 (g 7 rfl) T Y (hIK := hIK)
  have F_width_of_length := ok_width_of_length (P := PP) (w := w) (base := base) F11 (g 11 rfl) T Y 
  have F_parity_signs := ok_parity_signs (P := PP) (w := w) (base := base) F12 (g 12 rfl) T Y 
  have F_steppedO := ok_steppedO (P := PP) (w := w) (base := base) F13 (g 13 rfl) T Y 
  have F_summed := ok_summed (P := PP) (w := w) (base := base) F15 (g 15 rfl) T Y 
  have F_law_mixed := ok_law_mixed (P := PP) (w := w) (base := base) F19 (g 19 rfl) T Y 
  have F_law_store := ok_law_store (P := PP) (w := w) (base := base) F21 (g 21 rfl) T Y 
  have F_law_is_integer := ok_law_is_integer (P := PP) (w := w) (base := base) F24 (g 24 rfl) T Y 
  have F_law_size := ok_law_size (P := PP) (w := w) (base := base) F28 (g 28 rfl) T Y 
  have F_law_number_fault_iv := ok_law_number_fault_iv (P := PP) (w := w) (base := base) F32 (g 32 rfl) T Y (hIK := hIK)
  have F_law_first_fault := ok_law_first_fault (P := PP) (w := w) (base := base) F35 (g 35 rfl) T Y 
  have F_law_plain := ok_law_plain (P := PP) (w := w) (base := base) F41 (g 41 rfl) T Y 
  have P_law_refused : ∀ pn, FDP PP w K mg base 1 "_law_refused" 1 pn (W_law_refused pn) := fun pn => ok_law_refused pn F44 (g 44 rfl) T Y (hXf := hXf)
  have F_all_stepsO := ok_all_stepsO (P := PP) (w := w) (base := base) F14 (g 14 rfl) T Y (F_width_of_length := F_width_of_length) (F_steppedO := F_steppedO)
  have F_law_wide := ok_law_wide (P := PP) (w := w) (base := base) F20 (g 20 rfl) T Y (F_law_mixed := F_law_mixed)
  have F_law_parity := ok_law_parity (P := PP) (w := w) (base := base) F29 (g 29 rfl) T Y (F_law_size := F_law_size)
  have F_law_row_faultN := ok_law_row_faultN (P := PP) (w := w) (base := base) F33 (g 33 rfl) T Y (F_law_number_fault_iv := F_law_number_fault_iv) (hIK := hIK)
  have F_law_is_model := ok_law_is_model (P := PP) (w := w) (base := base) F37 (g 37 rfl) T Y (F_law_is_integer := F_law_is_integer) (hIK := hIK)
  have F_check_integer_tables := ok_check_integer_tables (P := PP) (w := w) (base := base) F1 (g 1 rfl) T Y (E_WrongKind := E_WrongKind)
  have F_check_row_tables := ok_check_row_tables (P := PP) (w := w) (base := base) F5 (g 5 rfl) T Y (E_WrongSize := E_WrongSize) (E_WrongKind := E_WrongKind)
  have F_check_table_shades := ok_check_table_shades (P := PP) (w := w) (base := base) F8 (g 8 rfl) T Y (O_Table := O_Table) (hIK := hIK) (E_WrongKind := E_WrongKind)
  have F_check_row_shades := ok_check_row_shades (P := PP) (w := w) (base := base) F9 (g 9 rfl) T Y (hIK := hIK) (E_WrongKind := E_WrongKind)
  have F_law_take := ok_law_take (P := PP) (w := w) (base := base) F22 (g 22 rfl) T Y (F_law_wide := F_law_wide)
  have F_law_field_fault := ok_law_field_fault (P := PP) (w := w) (base := base) F34 (g 34 rfl) T Y (F_law_row_faultN := F_law_row_faultN) (hIK := hIK)
  have F_check_between_tables := ok_check_between_tables (P := PP) (w := w) (base := base) F2 (g 2 rfl) T Y (E_OutOfRange := E_OutOfRange) (F_check_integer_tables := F_check_integer_tables)
  have F_check_field := ok_check_field (P := PP) (w := w) (base := base) F10 (g 10 rfl) T Y (F_whole := F_whole) (E_WrongKind := E_WrongKind) (hTc_FIELD_LENGTHS := hTc_FIELD_LENGTHS) (E_WrongSize := E_WrongSize) (F_check_row_shades := F_check_row_shades)
  have K_plain_scores_table := okK_plain_scores_table (P := PP) (w := w) (base := base) F16 (g 16 rfl) T Y (F_summed := F_summed) (G_Table_width := G_Table_width) (F_parity_signs := F_parity_signs) (M_Table_signs := M_Table_signs) (F_check_table_shades := F_check_table_shades)
  have F_plain_scores := ok_plain_scores (P := PP) (w := w) (base := base) F16 (g 16 rfl) T Y (F_summed := F_summed) (G_Table_width := G_Table_width) (F_parity_signs := F_parity_signs) (M_Table_signs := M_Table_signs) (F_check_table_shades := F_check_table_shades)
  have K_scoresO_table := okK_scoresO_table (P := PP) (w := w) (base := base) F17 (g 17 rfl) T Y (M_Table_signs := M_Table_signs) (F_all_stepsO := F_all_stepsO) (F_check_table_shades := F_check_table_shades)
  have F_scoresO := ok_scoresO (P := PP) (w := w) (base := base) F17 (g 17 rfl) T Y (M_Table_signs := M_Table_signs) (F_all_stepsO := F_all_stepsO) (F_check_table_shades := F_check_table_shades)
  have F_law_near := ok_law_near (P := PP) (w := w) (base := base) F23 (g 23 rfl) T Y (F_law_take := F_law_take)
  have F_law_width := ok_law_width (P := PP) (w := w) (base := base) F30 (g 30 rfl) T Y (F_law_take := F_law_take)
  have F_law_as_row := ok_law_as_row (P := PP) (w := w) (base := base) F31 (g 31 rfl) T Y (F_law_take := F_law_take)
  have F_law_odd_numberN := ok_law_odd_numberN (P := PP) (w := w) (base := base) F36 (g 36 rfl) T Y (F_law_take := F_law_take)
  have F_law_fault := ok_law_fault (P := PP) (w := w) (base := base) F40 (g 40 rfl) T Y (F_law_first_fault := F_law_first_fault) (F_law_is_model := F_law_is_model) (F_law_field_fault := F_law_field_fault)
  have F_law_some_bits := ok_law_some_bits (P := PP) (w := w) (base := base) F47 (g 47 rfl) T Y (F_law_parity := F_law_parity) (F_law_take := F_law_take)
  have F_law_odd_tableM := ok_law_odd_tableM (P := PP) (w := w) (base := base) F49 (g 49 rfl) T Y (F_law_take := F_law_take)
  have F_check_width_tables := ok_check_width_tables (P := PP) (w := w) (base := base) F3 (g 3 rfl) T Y (m_MOST_WIDTH := m_of_MOST_WIDTH) (F_check_between_tables := F_check_between_tables)
  have F_check_bits := ok_check_bits (P := PP) (w := w) (base := base) F6 (g 6 rfl) T Y (F_check_between_tables := F_check_between_tables) (F_check_row_tables := F_check_row_tables)
  have K_quick_field_field := okK_quick_field_field (P := PP) (w := w) (base := base) F18 (g 18 rfl) T Y (F_all_stepsO := F_all_stepsO) (F_check_field := F_check_field)
  have F_quick_field := ok_quick_field (P := PP) (w := w) (base := base) F18 (g 18 rfl) T Y (F_all_stepsO := F_all_stepsO) (F_check_field := F_check_field)
  have X_law_spoil : ∀ n, FDx PP w K mg base n "_law_spoil" true n := fun n => by
    induction n with
    | zero => exact fdx_never (ps := ["_law_given"]) F26 (g 26 rfl) (fun _ _ _ _ _ _ us hl => match us, hl with | [_], _ => rfl)
    | succ n ih => exact ok_law_spoil F26 (g 26 rfl) T Y (hIK := hIK) (X_law_spoil := ih)
  have X_law_spoil := X_law_spoil 5
  have F_law_due := ok_law_due (P := PP) (w := w) (base := base) F42 (g 42 rfl) T Y (F_law_plain := F_law_plain) (F_law_fault := F_law_fault)
  have F_law_model := ok_law_model (P := PP) (w := w) (base := base) F48 (g 48 rfl) T Y (F_law_some_bits := F_law_some_bits) (F_law_width := F_law_width)
  have F_law_odd_fieldX := ok_law_odd_fieldX (P := PP) (w := w) (base := base) F50 (g 50 rfl) T Y (F_law_as_row := F_law_as_row) (F_law_take := F_law_take) (F_law_odd_numberN := F_law_odd_numberN) (F_law_near := F_law_near)
  have F_law_signs := ok_law_signs (P := PP) (w := w) (base := base) F51 (g 51 rfl) T Y (F_law_as_row := F_law_as_row)
  have I_Table_init := ok_Table_init (P := PP) (w := w) (base := base) M0 T Y (hNo_held := hNo_held) (hNo_wide := hNo_wide) (F_check_bits := F_check_bits) (F_check_width_tables := F_check_width_tables) O_Table hC_Table hMk_Table
  have F_law_sameD : ∀ n, FD PP w K mg base n "_law_same" 2 (W_law_sameD n) := fun n => by
    induction n with
    | zero => exact fd_never (ps := ["_law_told", "_law_due_here"]) never_law_sameD F25 (g 25 rfl) (fun _ _ _ _ _ _ us hl => match us, hl with | [_, _], _ => rfl)
    | succ n ih => exact ok_law_sameD F25 (g 25 rfl) T Y (F_law_sameD := ih)
  have F_law_sameD := F_law_sameD 6
  have F_law_ask := ok_law_ask (P := PP) (w := w) (base := base) F43 (g 43 rfl) T Y (K_quick_field_field := K_quick_field_field) (K_plain_scores_table := K_plain_scores_table) (K_scoresO_table := K_scoresO_table) (F_quick_field := F_quick_field) (F_plain_scores := F_plain_scores) (F_scoresO := F_scoresO)
  have F_law_is_tableD := ok_law_is_tableD (P := PP) (w := w) (base := base) F27 (g 27 rfl) T Y (G_Table_width := G_Table_width) (F_law_sameD := F_law_sameD) (G_Table_bits := G_Table_bits) (O_Table := O_Table) (hIK := hIK)
  have F_law_called := ok_law_called (P := PP) (w := w) (base := base) F45 (g 45 rfl) T Y (F_law_ask := F_law_ask) (P_law_refused := P_law_refused)
  have F_law_as_table : ∀ n, FD PP w K mg base (7 + n) "_law_as_table" 1 (W_law_as_table n) := fun n => by
    induction n with
    | zero => exact fd_never (ps := ["_law_given"]) never_law_as_table F38 (g 38 rfl) (fun _ _ _ _ _ _ us hl => match us, hl with | [_], _ => rfl)
    | succ n ih => exact ok_law_as_table (Nat.le_add_right 7 n) F38 (g 38 rfl) T Y (hIK := hIK) (F_law_as_table := ih) (F_law_is_model := F_law_is_model) (I_Table_init := I_Table_init)
  have F_law_as_table := F_law_as_table 5
  have F_law_meets : ∀ n, FD PP w K mg base (7 + n) "_law_meets" 2 (W_law_meets n) := fun n => by
    induction n with
    | zero => exact fd_never (ps := ["_law_told", "_law_due_here"]) never_law_meets F39 (g 39 rfl) (fun _ _ _ _ _ _ us hl => match us, hl with | [_, _], _ => rfl)
    | succ n ih => exact ok_law_meets (Nat.le_add_right 7 n) F39 (g 39 rfl) T Y (F_law_meets := ih) (hIK := hIK) (F_law_sameD := F_law_sameD) (F_law_is_model := F_law_is_model) (F_law_is_tableD := F_law_is_tableD)
  have F_law_meets := F_law_meets 6
  have F_law_right := ok_law_right (P := PP) (w := w) (base := base) F46 (g 46 rfl) T Y (X_law_spoil := X_law_spoil) (F_law_meets := F_law_meets) (F_law_called := F_law_called) (F_law_is_model := F_law_is_model) (F_law_as_table := F_law_as_table) (F_law_due := F_law_due)
  have F_law_shared := ok_law_shared (P := PP) (w := w) (base := base) F52 (g 52 rfl) T Y (F_law_meets := F_law_meets) (X_law_spoil := X_law_spoil) (F_law_sameD := F_law_sameD) (M_Table_signs := M_Table_signs) (F_quick_field := F_quick_field) (F_law_ask := F_law_ask) (F_law_take := F_law_take) (F_law_due := F_law_due) (F_law_as_table := F_law_as_table)
  exact ok_law (P := PP) (w := w) (base := base) F53 T Y (F_law_model := F_law_model) (F_law_shared := F_law_shared) (F_law_odd_fieldX := F_law_odd_fieldX) (F_law_right := F_law_right) (F_law_odd_tableM := F_law_odd_tableM) (F_law_signs := F_law_signs) (F_law_take := F_law_take) (F_law_store := F_law_store) (spL K) hsp

theorem walk_N {l : PySem.W.OpenLaw} {n k : Nat} {q : Program} {loose : List Str} {XP : (Str → Option Value) → Heap → Prop} {YP : World → Heap → Prop} {d : DefRec} {x : Str} (h1 : l.most = some n) (h2 : n ≤ sizeLine) (h3 : d.params.defaults = []) (h4 : Room k callerA)
    (F : ∀ (w : World) (mg : Str → Option Value) (fa : Addr) (h : Heap), YP w h → h.Ns mainGlobals mg → mg d.name = some (.ref fa) → ∃ (K : PySem.W.Frag) (fd : FuncData), K.In h ∧ (∀ (s : Shared) (u : Value), BindsTo s fd ⟨[u], []⟩ [(x, u)]) ∧
      ∀ base : Heap, K.In base → base.Ns mainGlobals mg → FnOk l.prog w K mg base (L2N.CX l.prog w) k fa fd [x] (spL K)) :
    PySem.W.WalkO q loose XP YP l.row.toRowW d [] (fun f vs => PySem.call f vs) :=
  Att.attach_call h1 h3 fun w t u mg mb fa ob q1 q2 q3 li xs is G Y _ _ _ e1 e2 e3 e4 e5 => by
    obtain ⟨K, fd, X, hb, hF⟩ := F w mg fa _ Y G.T.g e1
    exact law_call X G.T.g G.T.b G.T.builtins G.T.nolimit e5 e2 e3 (Nat.le_trans e4 h2) h4 hF hb (fun H _ hS => ⟨li, is, rfl, hS, fun _ => rfl⟩) fun H e s' z => by
      obtain ⟨_, _, _, _, _, _, _, _, _, _, _, _, z⟩ := z
      exact z
end C
open PySem PySem.W PySem.Calls PyProof.Rows
theorem PySem.Challenge.cw_bitshades_k19_scores_by_three_ways_holds : PySem.Challenge.rw_bitshades_k19_scores_by_three_ways.Holds := by
  w_on; o_law
  refine HandSHeadRun.head_any (r := H19.R) (q := H19.qv) (H := H19.hk) (ob := H19.ob) (M := 12000) (loose := H19.loose) (d := HandSHeadRun.topDef H19.R.prog 75) (kwd := []) H19.ob_eq (by kernel_rfl) (fun s => by kernel_rfl) H19.run (by kernel_rfl) (by kernel_rfl) (by kernel_rfl) (by rfl) (by first | assumption | decide +kernel) (by decide +kernel) ⟨rfl, rfl, rfl, rfl, rfl, by decide +kernel⟩ ?hw ?hc
  case hw => w_witness2
  case hc =>
    refine C.walk_N (l := PySem.Challenge.rw_bitshades_k19_scores_by_three_ways) (n := 63) (k := 15) (x := "_law_script") rfl (by decide) (by kernel_rfl) ⟨rfl, by decide, by decide⟩ ?F
    intro w mg fa h Y G hm0
    obtain ⟨K, X, c⟩ := Y
    have hm : mg ("law" : PySem.Str) = some (.ref fa) := by
      have e : (HandSHeadRun.topDef H19.R.prog 75).name = ("law" : PySem.Str) := by kernel_rfl
      exact e ▸ hm0
    obtain ⟨fd, hb, hF⟩ := C.facts (w := w) X G hm c
    exact ⟨K, fd, X, hb, hF⟩
