import PyProof.Rows.All
import Wide.All
import OpenK.AllK
import Wide.FinOn
import HandS.ForMost
import HandS.Style
import HandS.TupAny
import HandS.IsInst
import HandS.DictComp
import HandS.Zip
import HandS.Conv
import HandS.Codes
import HandS.TupMul
import HandS.OwnEq
import KE.GoesEnum
import HandS.Small
import HandS.SortInts
import HandS.Defaults
import PySem.Challenge.RW_allstitches_k17_whole_cross_relations
set_option Elab.async false
set_option linter.all false
set_option maxRecDepth 100000
set_option maxHeartbeats 4000000
/-! the data layer: deep values, slots that hold data, what a reading yields -/
namespace K17
open PySem L2

/-- data as a whole: what a value is, with all that hangs on it -/
inductive D where
  | non | bl (b : Bool) | int (i : Int) | str (x : Str) | tup (ds : List D) | lst (ds : List D)
  | ins (C : Addr) (fs : List (Str × D)) | dic (kvs : List (Key × D)) | scr (ns : List Int)

mutual
inductive Rp (K : PySem.W.Frag) (H : Hp) : V → D → Prop
  | non : Rp K H .non .non
  | bl (b : Bool) : Rp K H (.bl b) (.bl b)
  | int (i : Int) : Rp K H (.int i) (.int i)
  | str (x : Str) : Rp K H (.str x) (.str x)
  | tup {a : Addr} {xs : List V} {ds : List D} : H a = some (.tup xs) → RpA K H xs ds → Rp K H (.ref a) (.tup ds)
  | lst {a : Addr} {xs : List V} {ds : List D} : H a = some (.lst xs) → RpA K H xs ds → Rp K H (.ref a) (.lst ds)
  | ins {a C dx : Addr} {fs : List (Str × V)} {gs : List (Str × D)} : H a = some (.ins C dx fs) → RpF K H fs gs → Rp K H (.ref a) (.ins C gs)
  | dic {a : Addr} {kvs : List (Key × V)} {gs : List (Key × D)} : H a = some (.dK kvs) → RpK K H kvs gs → Rp K H (.ref a) (.dic gs)
  | scr {a : Addr} {ns : List Int} : SqL K H a (ns.map V.int) → Rp K H (.ref a) (.scr ns)
inductive RpA (K : PySem.W.Frag) (H : Hp) : List V → List D → Prop
  | nil : RpA K H [] []
  | cons {v : V} {d : D} {vs : List V} {ds : List D} : Rp K H v d → RpA K H vs ds → RpA K H (v :: vs) (d :: ds)
inductive RpF (K : PySem.W.Frag) (H : Hp) : List (Str × V) → List (Str × D) → Prop
  | nil : RpF K H [] []
  | cons {f : Str} {v : V} {d : D} {fs : List (Str × V)} {gs : List (Str × D)} : Rp K H v d → RpF K H fs gs → RpF K H ((f, v) :: fs) ((f, d) :: gs)
inductive RpK (K : PySem.W.Frag) (H : Hp) : List (Key × V) → List (Key × D) → Prop
  | nil : RpK K H [] []
  | cons {f : Key} {v : V} {d : D} {fs : List (Key × V)} {gs : List (Key × D)} : Rp K H v d → RpK K H fs gs → RpK K H ((f, v) :: fs) ((f, d) :: gs)
end

theorem Same.seqS {K : PySem.W.Frag} {H H' : Hp} {a : Addr} {xs : List V} (e : Same H H') (h : SqL K H a xs) : SqL K H' a xs := e.seq h
section
variable {K : PySem.W.Frag} {H H' : Hp}
theorem Rp.ext (e : Same H H') {v : V} {d : D} (h : Rp K H v d) : Rp K H' v d :=
  Rp.rec (motive_1 := fun v d _ => Rp K H' v d) (motive_2 := fun v d _ => RpA K H' v d) (motive_3 := fun v d _ => RpF K H' v d) (motive_4 := fun v d _ => RpK K H' v d)
    .non .bl .int .str (fun h _ r => .tup (e _ _ h) r) (fun h _ r => .lst (e _ _ h) r) (fun h _ r => .ins (e _ _ h) r) (fun h _ r => .dic (e _ _ h) r) (fun h => .scr (e.seq h))
    .nil (fun _ _ a b => .cons a b) .nil (fun _ _ a b => .cons a b) .nil (fun _ _ a b => .cons a b) h
theorem RpA.ext (e : Same H H') : ∀ {vs : List V} {ds : List D}, RpA K H vs ds → RpA K H' vs ds
  | _, _, .nil => .nil
  | _, _, .cons r t => .cons (r.ext e) (RpA.ext e t)
theorem RpF.ext (e : Same H H') : ∀ {vs : List (Str × V)} {ds : List (Str × D)}, RpF K H vs ds → RpF K H' vs ds
  | _, _, .nil => .nil
  | _, _, .cons r t => .cons (r.ext e) (RpF.ext e t)
theorem RpK.ext (e : Same H H') : ∀ {vs : List (Key × V)} {ds : List (Key × D)}, RpK K H vs ds → RpK K H' vs ds
  | _, _, .nil => .nil
  | _, _, .cons r t => .cons (r.ext e) (RpK.ext e t)
theorem RpA.len : ∀ {vs : List V} {ds : List D}, RpA K H vs ds → vs.length = ds.length
  | _, _, .nil => rfl
  | _, _, .cons _ t => congrArg Nat.succ (RpA.len t)
theorem RpK.len : ∀ {vs : List (Key × V)} {ds : List (Key × D)}, RpK K H vs ds → vs.length = ds.length
  | _, _, .nil => rfl
  | _, _, .cons _ t => congrArg Nat.succ (RpK.len t)
theorem RpA.get : ∀ {vs : List V} {ds : List D} {i : Nat} {d : D}, RpA K H vs ds → ds[i]? = some d → ∃ v, vs[i]? = some v ∧ Rp K H v d
  | _, _, i, _, .nil, h => by simp at h
  | _, _, 0, _, .cons r _, h => by
    simp only [List.getElem?_cons_zero, Option.some.injEq] at h
    subst h
    exact ⟨_, rfl, r⟩
  | _, _, i + 1, _, .cons _ t, h => by
    simp only [List.getElem?_cons_succ] at h
    obtain ⟨v, h1, h2⟩ := RpA.get t h
    exact ⟨v, by simpa using h1, h2⟩
theorem RpA.getV : ∀ {vs : List V} {ds : List D} {i : Nat} {v : V}, RpA K H vs ds → vs[i]? = some v → ∃ d, ds[i]? = some d ∧ Rp K H v d
  | _, _, i, _, .nil, h => by simp at h
  | _, _, 0, _, .cons r _, h => by
    simp only [List.getElem?_cons_zero, Option.some.injEq] at h
    subst h
    exact ⟨_, rfl, r⟩
  | _, _, i + 1, _, .cons _ t, h => by
    simp only [List.getElem?_cons_succ] at h
    obtain ⟨v, h1, h2⟩ := RpA.getV t h
    exact ⟨v, by simpa using h1, h2⟩
theorem RpA.app : ∀ {vs ws : List V} {ds es : List D}, RpA K H vs ds → RpA K H ws es → RpA K H (vs ++ ws) (ds ++ es)
  | _, _, _, _, .nil, h => h
  | _, _, _, _, .cons r t, h => .cons r (RpA.app t h)
theorem RpA.one {v : V} {d : D} (h : Rp K H v d) : RpA K H [v] [d] := .cons h .nil
theorem RpA.ints : ∀ {vs : List V} {ns : List Int}, RpA K H vs (ns.map D.int) → vs = ns.map V.int
  | [], [], _ => rfl
  | [], n :: r, h => nomatch h
  | v :: vs, [], h => nomatch h
  | v :: vs, n :: r, h => by
    cases h with
    | cons a b =>
      cases a
      rw [RpA.ints b]
      rfl
theorem RpA.ofInts : ∀ ns : List Int, RpA K H (ns.map V.int) (ns.map D.int)
  | [] => .nil
  | n :: r => .cons (.int n) (RpA.ofInts r)
theorem RpA.bls : ∀ {vs : List V} {ns : List Bool}, RpA K H vs (ns.map D.bl) → vs = ns.map V.bl
  | [], [], _ => rfl
  | [], n :: r, h => nomatch h
  | v :: vs, [], h => nomatch h
  | v :: vs, n :: r, h => by
    cases h with
    | cons a b =>
      cases a
      rw [RpA.bls b]
      rfl
theorem RpA.ofBls : ∀ ns : List Bool, RpA K H (ns.map V.bl) (ns.map D.bl)
  | [] => .nil
  | n :: r => .cons (.bl n) (RpA.ofBls r)
theorem RpA.take : ∀ {vs : List V} {ds : List D} (n : Nat), RpA K H vs ds → RpA K H (vs.take n) (ds.take n)
  | _, _, 0, _ => .nil
  | _, _, _ + 1, .nil => .nil
  | _, _, n + 1, .cons r t => .cons r (RpA.take n t)
theorem RpA.drop : ∀ {vs : List V} {ds : List D} (n : Nat), RpA K H vs ds → RpA K H (vs.drop n) (ds.drop n)
  | _, _, 0, r => r
  | _, _, _ + 1, .nil => .nil
  | _, _, n + 1, .cons r t => RpA.drop n t
theorem RpA.rev {vs : List V} {ds : List D} (h : RpA K H vs ds) : RpA K H vs.reverse ds.reverse := by
  have go : ∀ {vs : List V} {ds : List D}, RpA K H vs ds → RpA K H vs.reverse ds.reverse := by
    intro vs
    induction vs with
    | nil =>
      intro ds h
      cases h
      exact .nil
    | cons v vs ih =>
      intro ds h
      cases h with
      | cons r t =>
        rw [List.reverse_cons, List.reverse_cons]
        exact (ih t).app (.one r)
  exact go h
theorem RpA.flat (h : ∀ {n : Nat}, True) : True := trivial
theorem RpA.rep {vs : List V} {ds : List D} (h : RpA K H vs ds) : ∀ k : Nat, RpA K H (List.replicate k vs).flatten (List.replicate k ds).flatten
  | 0 => .nil
  | k + 1 => by
    rw [List.replicate_succ, List.replicate_succ, List.flatten_cons, List.flatten_cons]
    exact h.app (RpA.rep h k)
theorem RpF.look : ∀ {fs : List (Str × V)} {gs : List (Str × D)} {f : Str} {d : D}, RpF K H fs gs → gs.lookup f = some d → ∃ v, fs.lookup f = some v ∧ Rp K H v d
  | _, _, f, _, .nil, h => by simp at h
  | (g, v) :: fs, (_, d') :: gs, f, d, .cons r t, h => by
    by_cases e : f == g
    · rw [List.lookup_cons, e] at h
      cases h
      exact ⟨v, by rw [List.lookup_cons, e], r⟩
    · have e' : (f == g) = false := by simpa using e
      rw [List.lookup_cons, e'] at h
      obtain ⟨w, h1, h2⟩ := RpF.look t h
      exact ⟨w, by rw [List.lookup_cons, e']; exact h1, h2⟩
theorem RpF.lookN : ∀ {fs : List (Str × V)} {gs : List (Str × D)} {f : Str}, RpF K H fs gs → gs.lookup f = none → fs.lookup f = none
  | _, _, f, .nil, h => rfl
  | (g, v) :: fs, (_, d') :: gs, f, .cons r t, h => by
    by_cases e : f == g
    · rw [List.lookup_cons, e] at h
      cases h
    · have e' : (f == g) = false := by simpa using e
      rw [List.lookup_cons, e'] at h
      rw [List.lookup_cons, e']
      exact RpF.lookN t h
theorem RpF.len : ∀ {vs : List (Str × V)} {ds : List (Str × D)}, RpF K H vs ds → vs.length = ds.length
  | _, _, .nil => rfl
  | _, _, .cons _ t => congrArg Nat.succ (RpF.len t)
end

/-- a field stored: as putF, over data -/
def putD (f : Str) (d : D) : List (Str × D) → List (Str × D)
  | [] => [(f, d)]
  | (g, e) :: r => if g = f then (g, d) :: r else (g, e) :: putD f d r
theorem RpF.put {K : PySem.W.Frag} {H : Hp} {f : Str} {v : V} {d : D} (h : Rp K H v d) : ∀ {fs : List (Str × V)} {gs : List (Str × D)}, RpF K H fs gs → RpF K H (putF f v fs) (putD f d gs)
  | _, _, .nil => .cons h .nil
  | (g, w) :: fs, (_, e) :: gs, .cons r t => by
    unfold putF putD
    by_cases q : g = f
    · rw [if_pos q, if_pos q]
      exact .cons h t
    · rw [if_neg q, if_neg q]
      exact .cons r (RpF.put h t)

/-! ### the heap in two parts: Hb (frozen data) within H -/
structure Gr (Hb0 H0 Hb H : Hp) : Prop where
  b : Same Hb0 Hb
  h : Same H0 H
  s : Same Hb H
  o : ∀ a, Hb0 a = none → H0 a ≠ none → Hb a = none
theorem Gr.refl {Hb H : Hp} (s : Same Hb H) : Gr Hb H Hb H := ⟨Same.refl _, Same.refl _, s, fun _ h _ => h⟩
theorem Gr.trans {Hb0 H0 Hb1 H1 Hb2 H2 : Hp} (a : Gr Hb0 H0 Hb1 H1) (b : Gr Hb1 H1 Hb2 H2) : Gr Hb0 H0 Hb2 H2 :=
  ⟨a.b.trans b.b, a.h.trans b.h, b.s, fun x h1 h2 => b.o x (a.o x h1 h2) (fun z => h2 (a.h.free z))⟩
theorem same_new {H : Hp} {p : Addr} {o : HO} (h : H p = none) : Same H (upd H p o) := fun b x e => by
  rw [upd_ne (ne_of_none e h)]
  exact e
theorem Gr.new {Hb H : Hp} {p : Addr} {o : HO} (s : Same Hb H) (h : H p = none) : Gr Hb H (upd Hb p o) (upd H p o) :=
  ⟨same_new (s.free h), same_new h, fun b x e => by
    by_cases q : b = p
    · subst q
      rw [upd_same] at e ⊢
      exact e
    · rw [upd_ne q] at e ⊢
      exact s b x e, fun a h1 h2 => by
    have q : a ≠ p := fun z => h2 (z ▸ h)
    rw [upd_ne q]
    exact h1⟩
/-- a new object that is not data yet -/
theorem Gr.newO {Hb H : Hp} {p : Addr} {o : HO} (s : Same Hb H) (h : H p = none) : Gr Hb H Hb (upd H p o) :=
  ⟨Same.refl _, same_new h, s.trans (same_new h), fun _ h1 _ => h1⟩

/-! ### slots -/
inductive Sl where
  | no | dat (d : D) | ownL (a : Addr) (ds : List D) | ownD (a : Addr) (kvs : List (Key × D)) | ownI (a C : Addr) (fs : List (Str × D))
abbrev DS := List Sl
def Sl.own : Sl → Option Addr
  | .ownL a _ => some a
  | .ownD a _ => some a
  | .ownI a _ _ => some a
  | _ => none
def SlOk (K : PySem.W.Frag) (A : Hp × Hp) (Hb H : Hp) (o : Option V) : Sl → Prop
  | .no => True
  | .dat d => ∃ v, o = some v ∧ Rp K Hb v d
  | .ownL a ds => o = some (.ref a) ∧ Hb a = none ∧ A.2 a = none ∧ ∃ xs, H a = some (.lst xs) ∧ RpA K Hb xs ds
  | .ownD a ds => o = some (.ref a) ∧ Hb a = none ∧ A.2 a = none ∧ ∃ xs, H a = some (.dK xs) ∧ RpK K Hb xs ds
  | .ownI a C ds => o = some (.ref a) ∧ Hb a = none ∧ A.2 a = none ∧ ∃ dx xs, H a = some (.ins C dx xs) ∧ RpF K Hb xs ds
structure At (K : PySem.W.Frag) (A : Hp × Hp) (Hb H : Hp) (σ : L2.St) (δ : DS) : Prop where
  gr : Gr A.1 A.2 Hb H
  len : σ.length = δ.length
  sl : ∀ (i : Nat) (s : Sl), δ[i]? = some s → ∃ o : Option V, σ[i]? = some o ∧ SlOk K A Hb H o s
  un : ∀ (i j : Nat) (s t : Sl) (a : Addr), δ[i]? = some s → δ[j]? = some t → s.own = some a → t.own = some a → i = j
section
variable {K : PySem.W.Frag} {A : Hp × Hp} {Hb H Hb' H' : Hp} {σ : L2.St} {δ : DS}
theorem SlOk.own_in {o : Option V} {s : Sl} {a : Addr} (h : SlOk K A Hb H o s) (e : s.own = some a) : Hb a = none ∧ A.2 a = none ∧ H a ≠ none := by
  cases s with
  | no => cases e
  | dat d => cases e
  | ownL b ds =>
    cases e
    obtain ⟨_, h1, h2, xs, h3, _⟩ := h
    exact ⟨h1, h2, fun z => by rw [z] at h3; cases h3⟩
  | ownD b ds =>
    cases e
    obtain ⟨_, h1, h2, xs, h3, _⟩ := h
    exact ⟨h1, h2, fun z => by rw [z] at h3; cases h3⟩
  | ownI b C ds =>
    cases e
    obtain ⟨_, h1, h2, dx, xs, h3, _⟩ := h
    exact ⟨h1, h2, fun z => by rw [z] at h3; cases h3⟩
theorem SlOk.go {o : Option V} {s : Sl} (h : SlOk K A Hb H o s) (e : Same Hb Hb') (k : ∀ a, s.own = some a → Hb' a = none ∧ H' a = H a) : SlOk K A Hb' H' o s := by
  cases s with
  | no => trivial
  | dat d =>
    obtain ⟨v, h1, h2⟩ := h
    exact ⟨v, h1, h2.ext e⟩
  | ownL b ds =>
    obtain ⟨h0, h1, h2, xs, h3, h4⟩ := h
    obtain ⟨k1, k2⟩ := k b rfl
    exact ⟨h0, k1, h2, xs, k2.trans h3, h4.ext e⟩
  | ownD b ds =>
    obtain ⟨h0, h1, h2, xs, h3, h4⟩ := h
    obtain ⟨k1, k2⟩ := k b rfl
    exact ⟨h0, k1, h2, xs, k2.trans h3, h4.ext e⟩
  | ownI b C ds =>
    obtain ⟨h0, h1, h2, dx, xs, h3, h4⟩ := h
    obtain ⟨k1, k2⟩ := k b rfl
    exact ⟨h0, k1, h2, dx, xs, k2.trans h3, h4.ext e⟩
/-- the heap has grown, nothing owned has changed -/
theorem At.grow (h : At K A Hb H σ δ) (g : Gr Hb H Hb' H') : At K A Hb' H' σ δ :=
  ⟨h.gr.trans g, h.len, fun i s e => by
    obtain ⟨o, h1, h2⟩ := h.sl i s e
    refine ⟨o, h1, h2.go g.b fun a q => ?_⟩
    obtain ⟨r1, r2, r3⟩ := h2.own_in q
    refine ⟨g.o a r1 r3, ?_⟩
    cases z : H a with
    | none => exact absurd z r3
    | some u => exact g.h a u z, h.un⟩
theorem At.set {i : Nat} {d : D} {v : V} (h : At K A Hb H σ δ) (r : Rp K Hb v d) : At K A Hb H (σ.set i (some v)) (δ.set i (.dat d)) := by
  refine ⟨h.gr, by rw [List.length_set, List.length_set]; exact h.len, fun j s e => ?_, fun j k s t a e1 e2 q1 q2 => ?_⟩
  · by_cases q : i = j
    · subst q
      have hi : i < δ.length := by
        have := (List.getElem?_eq_some_iff.mp e).1
        rwa [List.length_set] at this
      rw [List.getElem?_set_self hi] at e
      cases e
      exact ⟨some v, by rw [List.getElem?_set_self (by rw [h.len]; exact hi)], v, rfl, r⟩
    · rw [List.getElem?_set_ne q] at e
      rw [List.getElem?_set_ne q]
      exact h.sl j s e
  · have f : ∀ {j : Nat} {s : Sl}, (δ.set i (Sl.dat d))[j]? = some s → s.own = some a → δ[j]? = some s := fun {j s} e q => by
      by_cases z : i = j
      · subst z
        have hi : i < δ.length := by
          have := (List.getElem?_eq_some_iff.mp e).1
          rwa [List.length_set] at this
        rw [List.getElem?_set_self hi] at e
        cases e
        cases q
      · rwa [List.getElem?_set_ne z] at e
    exact h.un j k s t a (f e1 q1) (f e2 q2) q1 q2
/-- slots forgotten -/
def DS.wipe (δ : DS) : List Nat → DS
  | [] => δ
  | v :: vs => (DS.wipe δ vs).set v .no
theorem At.setNo {i : Nat} {o : Option V} (h : At K A Hb H σ δ) : At K A Hb H (σ.set i o) (δ.set i .no) := by
  refine ⟨h.gr, by rw [List.length_set, List.length_set]; exact h.len, fun j s e => ?_, fun j k s t a e1 e2 q1 q2 => ?_⟩
  · by_cases q : i = j
    · subst q
      have hi : i < δ.length := by
        have := (List.getElem?_eq_some_iff.mp e).1
        rwa [List.length_set] at this
      rw [List.getElem?_set_self hi] at e
      cases e
      exact ⟨o, by rw [List.getElem?_set_self (by rw [h.len]; exact hi)], trivial⟩
    · rw [List.getElem?_set_ne q] at e
      rw [List.getElem?_set_ne q]
      exact h.sl j s e
  · have f : ∀ {j : Nat} {s : Sl}, (δ.set i Sl.no)[j]? = some s → s.own = some a → δ[j]? = some s := fun {j s} e q => by
      by_cases z : i = j
      · subst z
        have hi : i < δ.length := by
          have := (List.getElem?_eq_some_iff.mp e).1
          rwa [List.length_set] at this
        rw [List.getElem?_set_self hi] at e
        cases e
        cases q
      · rwa [List.getElem?_set_ne z] at e
    exact h.un j k s t a (f e1 q1) (f e2 q2) q1 q2
theorem At.wipe (h : At K A Hb H σ δ) : ∀ vs : List Nat, At K A Hb H (L2.wipe σ vs) (DS.wipe δ vs)
  | [] => h
  | v :: vs => (At.wipe h vs).setNo
theorem wipe_set {σ : L2.St} {i : Nat} {o : Option V} : ∀ {vs : List Nat}, i ∈ vs → L2.wipe (σ.set i o) vs = L2.wipe σ vs
  | [], h => by cases h
  | v :: vs, h => by
    unfold L2.wipe
    by_cases q : i ∈ vs
    · rw [wipe_set q]
    · have e : i = v := by
        rcases List.mem_cons.mp h with z | z
        · exact z
        · exact absurd z q
      subst e
      have c : ∀ (ws : List Nat), i ∉ ws → L2.wipe (σ.set i o) ws = (L2.wipe σ ws).set i o := by
        intro ws
        induction ws with
        | nil => intro _; rfl
        | cons w ws ih =>
          intro hw
          obtain ⟨h1, h2⟩ := not_or.mp (fun z => hw (List.mem_cons.mpr z))
          unfold L2.wipe
          rw [ih h2, List.set_comm _ _ h1]
      rw [c vs q, List.set_set]
theorem wipe_idem {σ : L2.St} (vs : List Nat) : L2.wipe (L2.wipe σ vs) vs = L2.wipe σ vs := by
  have g : ∀ ws : List Nat, (∀ w ∈ ws, w ∈ vs) → L2.wipe (L2.wipe σ ws) vs = L2.wipe σ vs := by
    intro ws
    induction ws with
    | nil => intro _; rfl
    | cons w ws ih =>
      intro h
      show L2.wipe ((L2.wipe σ ws).set w none) vs = _
      rw [wipe_set (h w (List.mem_cons_self ..))]
      exact ih fun z hz => h z (List.mem_cons_of_mem _ hz)
  exact g vs fun _ h => h
/-- a new list that a slot owns -/
theorem At.newL {i : Nat} {p : Addr} (h : At K A Hb H σ δ) (hp : H p = none) : At K A Hb (upd H p (.lst [])) (σ.set i (some (.ref p))) (δ.set i (.ownL p [])) := by
  have g := Gr.newO (o := .lst []) h.gr.s hp
  have h' := h.grow g
  have hA : A.2 p = none := h.gr.h.free hp
  refine ⟨h'.gr, by rw [List.length_set, List.length_set]; exact h.len, fun j s e => ?_, fun j k s t a e1 e2 q1 q2 => ?_⟩
  · by_cases q : i = j
    · subst q
      have hi : i < δ.length := by
        have := (List.getElem?_eq_some_iff.mp e).1
        rwa [List.length_set] at this
      rw [List.getElem?_set_self hi] at e
      cases e
      exact ⟨_, by rw [List.getElem?_set_self (by rw [h.len]; exact hi)], rfl, h.gr.s.free hp, hA, [], upd_same, .nil⟩
    · rw [List.getElem?_set_ne q] at e
      rw [List.getElem?_set_ne q]
      exact h'.sl j s e
  · have f : ∀ {j : Nat} {s : Sl}, (δ.set i (Sl.ownL p []))[j]? = some s → s.own = some a → (j = i ∧ a = p) ∨ (j ≠ i ∧ a ≠ p ∧ δ[j]? = some s) := fun {j s} e q => by
      by_cases z : i = j
      · subst z
        have hi : i < δ.length := by
          have := (List.getElem?_eq_some_iff.mp e).1
          rwa [List.length_set] at this
        rw [List.getElem?_set_self hi] at e
        cases e
        cases q
        exact .inl ⟨rfl, rfl⟩
      · rw [List.getElem?_set_ne z] at e
        obtain ⟨o, _, ho⟩ := h.sl j s e
        obtain ⟨_, _, r⟩ := ho.own_in q
        exact .inr ⟨fun y => z y.symm, fun y => r (y ▸ hp), e⟩
    rcases f e1 q1 with ⟨x1, y1⟩ | ⟨x1, y1, z1⟩
    · rcases f e2 q2 with ⟨x2, y2⟩ | ⟨x2, y2, z2⟩
      · rw [x1, x2]
      · exact absurd y1 y2
    · rcases f e2 q2 with ⟨x2, y2⟩ | ⟨x2, y2, z2⟩
      · exact absurd y2 y1
      · exact h.un j k s t a z1 z2 q1 q2
theorem At.newD {i : Nat} {p : Addr} (h : At K A Hb H σ δ) (hp : H p = none) : At K A Hb (upd H p (.dK [])) (σ.set i (some (.ref p))) (δ.set i (.ownD p [])) := by
  have g := Gr.newO (o := .dK []) h.gr.s hp
  have h' := h.grow g
  have hA : A.2 p = none := h.gr.h.free hp
  refine ⟨h'.gr, by rw [List.length_set, List.length_set]; exact h.len, fun j s e => ?_, fun j k s t a e1 e2 q1 q2 => ?_⟩
  · by_cases q : i = j
    · subst q
      have hi : i < δ.length := by
        have := (List.getElem?_eq_some_iff.mp e).1
        rwa [List.length_set] at this
      rw [List.getElem?_set_self hi] at e
      cases e
      exact ⟨_, by rw [List.getElem?_set_self (by rw [h.len]; exact hi)], rfl, h.gr.s.free hp, hA, [], upd_same, .nil⟩
    · rw [List.getElem?_set_ne q] at e
      rw [List.getElem?_set_ne q]
      exact h'.sl j s e
  · have f : ∀ {j : Nat} {s : Sl}, (δ.set i (Sl.ownD p []))[j]? = some s → s.own = some a → (j = i ∧ a = p) ∨ (j ≠ i ∧ a ≠ p ∧ δ[j]? = some s) := fun {j s} e q => by
      by_cases z : i = j
      · subst z
        have hi : i < δ.length := by
          have := (List.getElem?_eq_some_iff.mp e).1
          rwa [List.length_set] at this
        rw [List.getElem?_set_self hi] at e
        cases e
        cases q
        exact .inl ⟨rfl, rfl⟩
      · rw [List.getElem?_set_ne z] at e
        obtain ⟨o, _, ho⟩ := h.sl j s e
        obtain ⟨_, _, r⟩ := ho.own_in q
        exact .inr ⟨fun y => z y.symm, fun y => r (y ▸ hp), e⟩
    rcases f e1 q1 with ⟨x1, y1⟩ | ⟨x1, y1, z1⟩
    · rcases f e2 q2 with ⟨x2, y2⟩ | ⟨x2, y2, z2⟩
      · rw [x1, x2]
      · exact absurd y1 y2
    · rcases f e2 q2 with ⟨x2, y2⟩ | ⟨x2, y2, z2⟩
      · exact absurd y2 y1
      · exact h.un j k s t a z1 z2 q1 q2
/-- what a slot owns is changed -/
theorem At.mut {i : Nat} {a : Addr} {o : HO} {s s' : Sl} {ov : Option V} (h : At K A Hb H σ δ) (hi : δ[i]? = some s) (ho : s.own = some a) (ho' : s'.own = some a) (hv : σ[i]? = some ov) (ok : SlOk K A Hb (upd H a o) ov s') :
    At K A Hb (upd H a o) σ (δ.set i s') := by
  obtain ⟨_, _, hs⟩ := h.sl i s hi
  obtain ⟨r1, r2, r3⟩ := hs.own_in ho
  have hil : i < δ.length := (List.getElem?_eq_some_iff.mp hi).1
  refine ⟨⟨h.gr.b, fun b u e => ?_, fun b u e => ?_, h.gr.o⟩, by rw [List.length_set]; exact h.len, fun j t e => ?_, fun j k t u b e1 e2 q1 q2 => ?_⟩
  · rw [upd_ne (ne_of_none e r2)]
    exact h.gr.h b u e
  · rw [upd_ne (ne_of_none e r1)]
    exact h.gr.s b u e
  · by_cases q : i = j
    · subst q
      rw [List.getElem?_set_self hil] at e
      cases e
      exact ⟨ov, hv, ok⟩
    · rw [List.getElem?_set_ne q] at e
      obtain ⟨w, h1, h2⟩ := h.sl j t e
      refine ⟨w, h1, h2.go (Same.refl _) fun b hb => ?_⟩
      obtain ⟨x1, _, _⟩ := h2.own_in hb
      refine ⟨x1, upd_ne fun z => q ?_⟩
      exact h.un i j s t a hi e ho (z ▸ hb)
  · have f : ∀ {j : Nat} {t : Sl}, (δ.set i s')[j]? = some t → t.own = some b → ∃ t', δ[j]? = some t' ∧ t'.own = some b := fun {j t} e q => by
      by_cases z : i = j
      · subst z
        rw [List.getElem?_set_self hil] at e
        cases e
        rw [ho'] at q
        exact ⟨s, hi, ho.trans q⟩
      · rw [List.getElem?_set_ne z] at e
        exact ⟨t, e, q⟩
    obtain ⟨t1, x1, y1⟩ := f e1 q1
    obtain ⟨t2, x2, y2⟩ := f e2 q2
    exact h.un j k t1 t2 b x1 x2 y1 y2
/-- what a slot owns becomes data -/
theorem At.freeze {i : Nat} {a : Addr} {o : HO} {s : Sl} {d : D} (h : At K A Hb H σ δ) (hi : δ[i]? = some s) (ho : s.own = some a) (hH : H a = some o) (hv : σ[i]? = some (some (.ref a))) (ok : Rp K (upd Hb a o) (.ref a) d) :
    Same Hb (upd Hb a o) ∧ At K A (upd Hb a o) H σ (δ.set i (.dat d)) := by
  obtain ⟨_, _, hs⟩ := h.sl i s hi
  obtain ⟨r1, r2, r3⟩ := hs.own_in ho
  have hil : i < δ.length := (List.getElem?_eq_some_iff.mp hi).1
  have e0 : Same Hb (upd Hb a o) := same_new r1
  refine ⟨e0, ⟨h.gr.b.trans e0, h.gr.h, fun b u e => ?_, fun b e1 e2 => ?_⟩, by rw [List.length_set]; exact h.len, fun j t e => ?_, fun j k t u b e1 e2 q1 q2 => ?_⟩
  · by_cases q : b = a
    · subst q
      rw [upd_same] at e
      cases e
      exact hH
    · rw [upd_ne q] at e
      exact h.gr.s b u e
  · have q : b ≠ a := fun z => e2 (by rw [z]; exact r2)
    rw [upd_ne q]
    exact h.gr.o b e1 e2
  · by_cases q : i = j
    · subst q
      rw [List.getElem?_set_self hil] at e
      cases e
      exact ⟨_, hv, _, rfl, ok⟩
    · rw [List.getElem?_set_ne q] at e
      obtain ⟨w, h1, h2⟩ := h.sl j t e
      refine ⟨w, h1, h2.go e0 fun b hb => ?_⟩
      obtain ⟨x1, _, _⟩ := h2.own_in hb
      have q2 : b ≠ a := fun z => q (h.un i j s t a hi e ho (by rw [← z]; exact hb))
      refine ⟨?_, rfl⟩
      rw [upd_ne q2]
      exact x1
  · have f : ∀ {j : Nat} {t : Sl}, (δ.set i (Sl.dat d))[j]? = some t → t.own = some b → δ[j]? = some t := fun {j t} e q => by
      by_cases z : i = j
      · subst z
        rw [List.getElem?_set_self hil] at e
        cases e
        cases q
      · rwa [List.getElem?_set_ne z] at e
    exact h.un j k t u b (f e1 q1) (f e2 q2) q1 q2
end
/-- the heap without what slots own -/
def hideD (δ : DS) (H : Hp) : Hp := fun b => if b ∈ δ.filterMap Sl.own then none else H b
theorem At.inner {K : PySem.W.Frag} {A : Hp × Hp} {Hb H : Hp} {σ : L2.St} {δ : DS} (h : At K A Hb H σ δ) : At K (Hb, hideD δ H) Hb H σ δ := by
  refine ⟨⟨Same.refl _, fun b u e => ?_, h.gr.s, fun _ h1 _ => h1⟩, h.len, fun i s e => ?_, h.un⟩
  · have e' : hideD δ H b = some u := e
    unfold hideD at e'
    split at e'
    · cases e'
    · exact e'
  · obtain ⟨o, h1, h2⟩ := h.sl i s e
    refine ⟨o, h1, ?_⟩
    have k : ∀ a, s.own = some a → hideD δ H a = none := fun a ha => by
      unfold hideD
      rw [if_pos]
      exact List.mem_filterMap.mpr ⟨s, List.mem_of_getElem? e, ha⟩
    cases s with
    | no => trivial
    | dat d => exact h2
    | ownL b ds => exact ⟨h2.1, h2.2.1, k b rfl, h2.2.2.2⟩
    | ownD b ds => exact ⟨h2.1, h2.2.1, k b rfl, h2.2.2.2⟩
    | ownI b C ds => exact ⟨h2.1, h2.2.1, k b rfl, h2.2.2.2⟩
theorem At.outer {K : PySem.W.Frag} {A : Hp × Hp} {Hb H Hb' H' : Hp} {σ σ' : L2.St} {δ δ' : DS} (h : At K A Hb H σ δ) (h' : At K (Hb, hideD δ H) Hb' H' σ' δ') : At K A Hb' H' σ' δ' := by
  have no : ∀ b, A.2 b ≠ none → hideD δ H b = H b := fun b hb => by
    unfold hideD
    rw [if_neg]
    intro m
    obtain ⟨s, hs, e⟩ := List.mem_filterMap.mp m
    obtain ⟨i, hi, q⟩ := List.getElem_of_mem hs
    obtain ⟨o, _, ok⟩ := h.sl i s (by rw [List.getElem?_eq_getElem hi, q])
    exact hb (ok.own_in e).2.1
  have un : ∀ a, hideD δ H a = none → A.2 a = none := fun a ha => by
    cases z : A.2 a with
    | none => rfl
    | some u =>
      have e := no a (by rw [z]; simp)
      rw [ha, h.gr.h a u z] at e
      cases e
  refine ⟨⟨h.gr.b.trans h'.gr.b, fun b u e => ?_, h'.gr.s, fun a h1 h2 => ?_⟩, h'.len, fun i s e => ?_, h'.un⟩
  · exact h'.gr.h b u ((no b (by rw [e]; simp)).trans (h.gr.h b u e))
  · exact h'.gr.o a (h.gr.o a h1 h2) (by
      show hideD δ H a ≠ none
      rw [no a h2]
      cases z : A.2 a with
      | none => exact absurd z h2
      | some u =>
        rw [h.gr.h a u z]
        simp)
  · obtain ⟨o, h1, h2⟩ := h'.sl i s e
    refine ⟨o, h1, ?_⟩
    cases s with
    | no => trivial
    | dat d => exact h2
    | ownL b ds => exact ⟨h2.1, h2.2.1, un b h2.2.2.1, h2.2.2.2⟩
    | ownD b ds => exact ⟨h2.1, h2.2.1, un b h2.2.2.1, h2.2.2.2⟩
    | ownI b C ds => exact ⟨h2.1, h2.2.1, un b h2.2.2.1, h2.2.2.2⟩
/-- an object that no slot owns stays under an inner run -/
theorem hideD_at {δ : DS} {H : Hp} {p : Addr} {o : HO} (h : H p = some o) (hn : p ∉ δ.filterMap Sl.own) : hideD δ H p = some o := by
  unfold hideD
  rw [if_neg hn]
  exact h
end K17
namespace K17
open PySem L2

/-! ### what a reading yields (nothing owned is changed) -/
def RD (K : PySem.W.Frag) (te : TE) (δ : DS) (d : D) : Prop :=
  ∀ (A : Hp × Hp) (σ : L2.St) (Hb H : Hp), At K A Hb H σ δ → ∀ Q : VK, (∀ v Hb' H', Gr Hb H Hb' H' → Rp K Hb' v d → Q v H') → te σ H Q
def RT (K : PySem.W.Frag) (t : TT) (δ : DS) (b : Bool) : Prop :=
  ∀ (A : Hp × Hp) (σ : L2.St) (Hb H : Hp), At K A Hb H σ δ → ∀ Q : Bool → Hp → Prop, (∀ Hb' H', Gr Hb H Hb' H' → Q b H') → t σ H Q
def RA (K : PySem.W.Frag) (ta : TA) (δ : DS) (ds : List D) : Prop :=
  ∀ (A : Hp × Hp) (σ : L2.St) (Hb H : Hp), At K A Hb H σ δ → ∀ Q : List V → Hp → Prop, (∀ vs Hb' H', Gr Hb H Hb' H' → RpA K Hb' vs ds → Q vs H') → ta σ H Q
/-- operators by values; calls by values -/
def OD (K : PySem.W.Frag) (r : R2) (a b d : D) : Prop :=
  ∀ (x y : V) (Hb H : Hp), Same Hb H → Rp K Hb x a → Rp K Hb y b → ∀ Q : VK, (∀ v Hb' H', Gr Hb H Hb' H' → Rp K Hb' v d → Q v H') → r x y H Q
def UD (K : PySem.W.Frag) (r : V → Hp → VK → Prop) (a d : D) : Prop :=
  ∀ (x : V) (Hb H : Hp), Same Hb H → Rp K Hb x a → ∀ Q : VK, (∀ v Hb' H', Gr Hb H Hb' H' → Rp K Hb' v d → Q v H') → r x H Q
def CD (K : PySem.W.Frag) (r : List V → Hp → VK → Prop) (ds : List D) (d : D) : Prop :=
  ∀ (vs : List V) (Hb H : Hp), Same Hb H → RpA K Hb vs ds → ∀ Q : VK, (∀ v Hb' H', Gr Hb H Hb' H' → Rp K Hb' v d → Q v H') → r vs H Q

section
variable {K : PySem.W.Frag} {δ : DS} {ta tb tc te : TE} {t u : TT} {a b d e : D} {r : R2}
theorem rd_var {i : Nat} (h : δ[i]? = some (.dat d)) : RD K (tVar i) δ d := fun A σ Hb H q Q k => by
  obtain ⟨o, h1, v, e, h2⟩ := q.sl i _ h
  subst e
  exact ⟨v, h1, k v Hb H (.refl q.gr.s) h2⟩
theorem rd_c {v : V} (h : ∀ Hb, Rp K Hb v d) : RD K (tC v) δ d := fun A σ Hb H q Q k => k v Hb H (.refl q.gr.s) (h Hb)
theorem rd_int {i : Int} : RD K (tC (.int i)) δ (.int i) := rd_c fun _ => .int i
theorem rd_str {x : Str} : RD K (tC (.str x)) δ (.str x) := rd_c fun _ => .str x
theorem rd_bl {x : Bool} : RD K (tC (.bl x)) δ (.bl x) := rd_c fun _ => .bl x
theorem rd_non : RD K (tC .non) δ .non := rd_c fun _ => .non
theorem rd_op (ha : RD K ta δ a) (hb : RD K tb δ b) (ho : OD K r a b d) : RD K (tOp r ta tb) δ d := fun A σ Hb H q Q k =>
  ha A σ Hb H q _ fun x Hb1 H1 g1 r1 => hb A σ Hb1 H1 (q.grow g1) _ fun y Hb2 H2 g2 r2 => ho x y Hb2 H2 g2.s (r1.ext g2.b) r2 Q fun v Hb3 H3 g3 r3 => k v Hb3 H3 ((g1.trans g2).trans g3) r3
theorem rd_un {f : V → Hp → VK → Prop} (ha : RD K ta δ a) (ho : UD K f a d) : RD K (tUn f ta) δ d := fun A σ Hb H q Q k =>
  ha A σ Hb H q _ fun x Hb1 H1 g1 r1 => ho x Hb1 H1 g1.s r1 Q fun v Hb3 H3 g3 r3 => k v Hb3 H3 (g1.trans g3) r3
theorem rd_eq (h : RD K te δ d) (q : d = e) : RD K te δ e := q ▸ h
theorem ra_nil : RA K tNil δ [] := fun A σ Hb H q Q k => k [] Hb H (.refl q.gr.s) .nil
theorem ra_cons {tr : TA} {ds : List D} (ha : RD K ta δ d) (hr : RA K tr δ ds) : RA K (tCons ta tr) δ (d :: ds) := fun A σ Hb H q Q k =>
  ha A σ Hb H q _ fun x Hb1 H1 g1 r1 => hr A σ Hb1 H1 (q.grow g1) _ fun xs Hb2 H2 g2 r2 => k _ Hb2 H2 (g1.trans g2) (.cons (r1.ext g2.b) r2)
theorem ra_one (ha : RD K ta δ d) : RA K (tCons ta tNil) δ [d] := ra_cons ha ra_nil
theorem rd_cb {f : List V → Hp → VK → Prop} {t : TA} {ds : List D} (ha : RA K t δ ds) (hc : CD K f ds d) : RD K (tCB f t) δ d := fun A σ Hb H q Q k =>
  ha A σ Hb H q _ fun x Hb1 H1 g1 r1 => hc x Hb1 H1 g1.s r1 Q fun v Hb3 H3 g3 r3 => k v Hb3 H3 (g1.trans g3) r3
theorem sz5 {n : Nat} (h : n ≤ 100000) : n ≤ sizeLine := Nat.le_trans h (by decide)
theorem szl5 {n : Nat} (h : n < 100000) : n < sizeLine := Nat.lt_of_lt_of_le h (by decide)
theorem rd_tup {t : TA} {ds : List D} (ha : RA K t δ ds) (hz : ds.length ≤ 100000) : RD K (tTup t) δ (.tup ds) := fun A σ Hb H q Q k =>
  ha A σ Hb H q _ fun x Hb1 H1 g1 r1 => ⟨by rw [r1.len]; exact sz5 hz, fun p hp => k _ (upd Hb1 p (.tup x)) _ (g1.trans (.new g1.s hp)) (.tup upd_same (r1.ext (Gr.new g1.s hp).b))⟩
theorem rd_lst {t : TA} {ds : List D} (ha : RA K t δ ds) (hz : ds.length ≤ 100000) : RD K (tLst t) δ (.lst ds) := fun A σ Hb H q Q k =>
  ha A σ Hb H q _ fun x Hb1 H1 g1 r1 => ⟨by rw [r1.len]; exact sz5 hz, fun p hp => k _ (upd Hb1 p (.lst x)) _ (g1.trans (.new g1.s hp)) (.lst upd_same (r1.ext (Gr.new g1.s hp).b))⟩
/-! tests -/
theorem rt_eq {x y : Bool} (h : RT K t δ x) (q : x = y) : RT K t δ y := q ▸ h
theorem rt_test {x : Bool} (h : RD K te δ (.bl x)) : RT K (tTest te) δ x := fun A σ Hb H q Q k =>
  h A σ Hb H q _ fun v Hb1 H1 g1 r1 => by
    cases r1
    exact ⟨x, rfl, k Hb1 H1 g1⟩
theorem rt_B {x : Bool} (h : RD K te δ (.bl x)) : RT K (tB te) δ x := fun A σ Hb H q Q k =>
  h A σ Hb H q _ fun v Hb1 H1 g1 r1 => by
    cases r1
    exact ⟨x, rfl, k Hb1 H1 g1⟩
theorem rt_and {x y : Bool} (h : RT K t δ x) (h2 : x = true → RT K u δ y) : RT K (tAnd t u) δ (x && y) := fun A σ Hb H q Q k =>
  h A σ Hb H q _ fun Hb1 H1 g1 => by
    cases x with
    | true => exact h2 rfl A σ Hb1 H1 (q.grow g1) Q fun Hb2 H2 g2 => k Hb2 H2 (g1.trans g2)
    | false => exact k Hb1 H1 g1
theorem rt_or {x y : Bool} (h : RT K t δ x) (h2 : x = false → RT K u δ y) : RT K (tOr t u) δ (x || y) := fun A σ Hb H q Q k =>
  h A σ Hb H q _ fun Hb1 H1 g1 => by
    cases x with
    | false => exact h2 rfl A σ Hb1 H1 (q.grow g1) Q fun Hb2 H2 g2 => k Hb2 H2 (g1.trans g2)
    | true => exact k Hb1 H1 g1
theorem rt_not {x : Bool} (h : RT K t δ x) : RT K (tNot t) δ (!x) := fun A σ Hb H q Q k => h A σ Hb H q _ fun Hb1 H1 g1 => k Hb1 H1 g1
theorem rt_yes : RT K tYes δ true := fun A σ Hb H q Q k => k Hb H (.refl q.gr.s)
theorem rd_and {x y : Bool} (h : RD K ta δ (.bl x)) (h2 : x = true → RD K tb δ (.bl y)) : RD K (tAndV ta tb) δ (.bl (x && y)) := fun A σ Hb H q Q k =>
  h A σ Hb H q _ fun v Hb1 H1 g1 r1 => by
    cases r1
    refine ⟨x, rfl, ?_⟩
    cases x with
    | true => exact h2 rfl A σ Hb1 H1 (q.grow g1) Q fun v Hb2 H2 g2 r2 => k v Hb2 H2 (g1.trans g2) r2
    | false => exact k _ Hb1 H1 g1 (.bl false)
theorem rd_or {x y : Bool} (h : RD K ta δ (.bl x)) (h2 : x = false → RD K tb δ (.bl y)) : RD K (tOrV ta tb) δ (.bl (x || y)) := fun A σ Hb H q Q k =>
  h A σ Hb H q _ fun v Hb1 H1 g1 r1 => by
    cases r1
    refine ⟨x, rfl, ?_⟩
    cases x with
    | false => exact h2 rfl A σ Hb1 H1 (q.grow g1) Q fun v Hb2 H2 g2 r2 => k v Hb2 H2 (g1.trans g2) r2
    | true => exact k _ Hb1 H1 g1 (.bl true)
theorem rd_not {x : Bool} (h : RD K ta δ (.bl x)) : RD K (tNotV ta) δ (.bl (!x)) := fun A σ Hb H q Q k =>
  h A σ Hb H q _ fun v Hb1 H1 g1 r1 => by
    cases r1
    exact ⟨x, rfl, k _ Hb1 H1 g1 (.bl _)⟩
theorem rd_if {x : Bool} (h : RT K t δ x) (h1 : x = true → RD K ta δ d) (h2 : x = false → RD K tb δ d) : RD K (tIf t ta tb) δ d := fun A σ Hb H q Q k =>
  h A σ Hb H q _ fun Hb1 H1 g1 => by
    cases x with
    | true => exact h1 rfl A σ Hb1 H1 (q.grow g1) Q fun v Hb2 H2 g2 r2 => k v Hb2 H2 (g1.trans g2) r2
    | false => exact h2 rfl A σ Hb1 H1 (q.grow g1) Q fun v Hb2 H2 g2 r2 => k v Hb2 H2 (g1.trans g2) r2
/-- a chain of two comparisons -/
theorem rd_chain {r' : R2} {c : D} {x y : Bool} (ha : RD K ta δ a) (hb : RD K tb δ b) (ho : OD K r a b (.bl x)) (hc : x = true → RD K tc δ c) (ho' : x = true → OD K r' b c (.bl y)) : RD K (tChain r r' ta tb tc) δ (.bl (x && y)) := fun A σ Hb H q Q k =>
  ha A σ Hb H q _ fun xv Hb1 H1 g1 r1 => hb A σ Hb1 H1 (q.grow g1) _ fun yv Hb2 H2 g2 r2 => ho xv yv Hb2 H2 g2.s (r1.ext g2.b) r2 _ fun v Hb3 H3 g3 r3 => by
    cases r3
    refine ⟨x, rfl, ?_⟩
    cases x with
    | true => exact hc rfl A σ Hb3 H3 (((q.grow g1).grow g2).grow g3) _ fun w Hb4 H4 g4 r4 => ho' rfl yv w Hb4 H4 g4.s ((r2.ext g3.b).ext g4.b) r4 Q fun v Hb5 H5 g5 r5 => k v Hb5 H5 ((((g1.trans g2).trans g3).trans g4).trans g5) r5
    | false => exact k _ Hb3 H3 ((g1.trans g2).trans g3) (.bl false)
end

/-! ### operators on numbers, texts, truth values -/
section
variable {K : PySem.W.Frag}
theorem od_I0 {g : Int → Int → V} {i j : Int} {d : D} (h : ∀ Hb, Rp K Hb (g i j) d) : OD K (rI0 g) (.int i) (.int j) d := fun x y Hb H s rx ry Q k => by
  cases rx
  cases ry
  exact ⟨i, j, rfl, rfl, k _ Hb H (.refl s) (h Hb)⟩
theorem od_i {g : Int → Int → Int} {i j : Int} : OD K (rI0 fun i j => .int (g i j)) (.int i) (.int j) (.int (g i j)) := od_I0 fun _ => .int _
theorem od_b {g : Int → Int → Bool} {i j : Int} : OD K (rI0 fun i j => .bl (g i j)) (.int i) (.int j) (.bl (g i j)) := od_I0 fun _ => .bl _
theorem od_C {C : Int → Int → Prop} {g : Int → Int → Int} {i j : Int} (hc : C i j) : OD K (rI C fun i j => .int (g i j)) (.int i) (.int j) (.int (g i j)) := fun x y Hb H s rx ry Q k => by
  cases rx
  cases ry
  exact ⟨i, j, rfl, rfl, hc, k _ Hb H (.refl s) (.int _)⟩
theorem ud_neg {i : Int} : UD K (rU fun i => .int (-i)) (.int i) (.int (-i)) := fun x Hb H s rx Q k => by
  cases rx
  exact ⟨i, rfl, k _ Hb H (.refl s) (.int _)⟩
theorem od_eqI {i j : Int} : OD K rEq (.int i) (.int j) (.bl (decide (i = j))) := fun x y Hb H s rx ry Q k => by
  cases rx
  cases ry
  refine ⟨rfl, ?_⟩
  rw [show decide (V.int i = V.int j) = decide (i = j) from decide_eq_decide.mpr ⟨V.int.inj, congrArg _⟩]
  exact k _ Hb H (.refl s) (.bl _)
theorem od_neI {i j : Int} : OD K rNe (.int i) (.int j) (.bl (!decide (i = j))) := fun x y Hb H s rx ry Q k => by
  cases rx
  cases ry
  refine ⟨rfl, ?_⟩
  rw [show decide (V.int i = V.int j) = decide (i = j) from decide_eq_decide.mpr ⟨V.int.inj, congrArg _⟩]
  exact k _ Hb H (.refl s) (.bl _)
theorem od_eqS {i j : Str} : OD K rEq (.str i) (.str j) (.bl (decide (i = j))) := fun x y Hb H s rx ry Q k => by
  cases rx
  cases ry
  refine ⟨rfl, ?_⟩
  rw [show decide (V.str i = V.str j) = decide (i = j) from decide_eq_decide.mpr ⟨V.str.inj, congrArg _⟩]
  exact k _ Hb H (.refl s) (.bl _)
theorem od_eqB {i j : Bool} : OD K rEq (.bl i) (.bl j) (.bl (decide (i = j))) := fun x y Hb H s rx ry Q k => by
  cases rx
  cases ry
  refine ⟨rfl, ?_⟩
  rw [show decide (V.bl i = V.bl j) = decide (i = j) from decide_eq_decide.mpr ⟨V.bl.inj, congrArg _⟩]
  exact k _ Hb H (.refl s) (.bl _)
theorem od_neB {i j : Bool} : OD K rNe (.bl i) (.bl j) (.bl (!decide (i = j))) := fun x y Hb H s rx ry Q k => by
  cases rx
  cases ry
  refine ⟨rfl, ?_⟩
  rw [show decide (V.bl i = V.bl j) = decide (i = j) from decide_eq_decide.mpr ⟨V.bl.inj, congrArg _⟩]
  exact k _ Hb H (.refl s) (.bl _)
/-! is None, is not None -/
def D.isNon : D → Bool
  | .non => true
  | _ => false
theorem Rp.nonIff {Hb : Hp} {x : V} {d : D} (h : Rp K Hb x d) : decide (x = .non) = d.isNon := by
  cases h <;> rfl
theorem od_isN {d : D} : OD K (fun x y H Q => y = .non ∧ Q (.bl (decide (x = .non))) H) d .non (.bl d.isNon) := fun x y Hb H s rx ry Q k => by
  cases ry
  refine ⟨rfl, ?_⟩
  rw [rx.nonIff]
  exact k _ Hb H (.refl s) (.bl _)
theorem od_notN {d : D} : OD K (fun x y H Q => y = .non ∧ Q (.bl (!decide (x = .non))) H) d .non (.bl (!d.isNon)) := fun x y Hb H s rx ry Q k => by
  cases ry
  refine ⟨rfl, ?_⟩
  rw [rx.nonIff]
  exact k _ Hb H (.refl s) (.bl _)
/-! an item -/
theorem RpA.atI {Hb : Hp} {xs : List V} {ds : List D} {i : Int} {d : D} (h : RpA K Hb xs ds) (e : L2.atI ds i = some d) : ∃ v, L2.atI xs i = some v ∧ Rp K Hb v d := by
  unfold L2.atI at e ⊢
  rw [h.len]
  cases q : ixN ds.length i with
  | none =>
    rw [q] at e
    cases e
  | some j =>
    rw [q] at e
    obtain ⟨v, h1, h2⟩ := h.get (i := j) e
    exact ⟨v, h1, h2⟩
theorem od_ixT {ds : List D} {i : Int} {d : D} (e : L2.atI ds i = some d) : OD K (rIxT K) (.tup ds) (.int i) d := fun x y Hb H s rx ry Q k => by
  cases ry
  cases rx with
  | tup h r =>
    obtain ⟨v, h1, h2⟩ := r.atI e
    exact ⟨_, _, i, v, rfl, rfl, SqT.of (s _ _ h), h1, k _ Hb H (.refl s) h2⟩
theorem od_ixL {ds : List D} {i : Int} {d : D} (e : L2.atI ds i = some d) : OD K (rIxL K) (.lst ds) (.int i) d := fun x y Hb H s rx ry Q k => by
  cases ry
  cases rx with
  | lst h r =>
    obtain ⟨v, h1, h2⟩ := r.atI e
    exact ⟨_, _, i, v, rfl, rfl, SqL.of (s _ _ h), h1, k _ Hb H (.refl s) h2⟩
theorem od_ixS {ns : List Int} {i : Int} {z : Int} (e : L2.atI ns i = some z) : OD K (rIxL K) (.scr ns) (.int i) (.int z) := fun x y Hb H s rx ry Q k => by
  cases ry
  cases rx with
  | scr h =>
    refine ⟨_, _, i, V.int z, rfl, rfl, s.seq h, ?_, k _ Hb H (.refl s) (.int z)⟩
    unfold L2.atI at e ⊢
    rw [List.length_map]
    cases q : ixN ns.length i with
    | none =>
      rw [q] at e
      cases e
    | some j =>
      rw [q] at e
      have e' : ns[j]? = some z := e
      show (ns.map V.int)[j]? = some (V.int z)
      rw [List.getElem?_map, e']
      rfl
/-! lists and tuples glued -/
theorem od_cat {as bs : List D} (hz : as.length + bs.length ≤ 100000) : OD K rCat (.lst as) (.lst bs) (.lst (as ++ bs)) := fun x y Hb H s rx ry Q k => by
  cases rx with
  | lst h r =>
    cases ry with
    | lst h' r' =>
      refine ⟨_, _, _, _, rfl, rfl, s _ _ h, s _ _ h', by rw [r.len, r'.len]; exact sz5 hz, fun p hp => ?_⟩
      exact k _ (upd Hb p (.lst _)) _ (.new s hp) (.lst upd_same ((r.app r').ext (Gr.new s hp).b))
theorem od_catA {as bs : List D} (hz : as.length + bs.length ≤ 100000) : OD K (rCatA K) (.tup as) (.tup bs) (.tup (as ++ bs)) := fun x y Hb H s rx ry Q k => by
  cases rx with
  | tup h r =>
    cases ry with
    | tup h' r' =>
      refine ⟨_, _, _, _, rfl, rfl, SqT.of (s _ _ h), SqT.of (s _ _ h'), by rw [r.len, r'.len]; exact sz5 hz, fun e => ?_, fun _ e => ?_, fun _ _ p hp => ?_⟩
      · subst e
        cases r
        exact k _ Hb H (.refl s) (.tup h' r')
      · subst e
        cases r'
        rw [List.append_nil] at k
        exact k _ Hb H (.refl s) (.tup h r)
      · exact k _ (upd Hb p (.tup _)) _ (.new s hp) (.tup upd_same ((r.app r').ext (Gr.new s hp).b))
/-! in a tuple, a list of numbers -/
theorem inV_ints {i : Int} {ns : List Int} : inV (V.int i) (ns.map V.int) = decide (i ∈ ns) := by
  unfold inV
  rw [List.any_map]
  apply Bool.eq_iff_iff.mpr
  rw [List.any_eq_true, decide_eq_true_iff]
  constructor
  · rintro ⟨z, h1, h2⟩
    have e : eqV (V.int z) (V.int i) = true := h2
    have e2 : z = i := by simpa [eqV] using e
    exact e2 ▸ h1
  · intro h
    exact ⟨i, h, by simp [eqV]⟩
theorem flat_ints (ns : List Int) : (ns.map V.int).all flatV = true := by
  rw [List.all_map]
  exact List.all_eq_true.mpr fun _ _ => rfl
theorem od_inT {i : Int} {ns : List Int} : OD K (rIn K false) (.int i) (.tup (ns.map .int)) (.bl (decide (i ∈ ns))) := fun x y Hb H s rx ry Q k => by
  cases rx
  cases ry with
  | tup h r =>
    have e := r.ints
    subst e
    refine ⟨_, _, rfl, .inr (SqT.of (s _ _ h)), rfl, flat_ints ns, ?_⟩
    show Q (.bl (inV (V.int i) (ns.map V.int))) H
    rw [inV_ints]
    exact k _ Hb H (.refl s) (.bl _)
end

/-! ### calls of built-ins -/
section
variable {K : PySem.W.Frag}
theorem RpA.one_inv {Hb : Hp} {vs : List V} {d : D} (h : RpA K Hb vs [d]) : ∃ v, vs = [v] ∧ Rp K Hb v d := by
  cases h with
  | cons r t =>
    cases t
    exact ⟨_, rfl, r⟩
theorem RpA.two_inv {Hb : Hp} {vs : List V} {d e : D} (h : RpA K Hb vs [d, e]) : ∃ v w, vs = [v, w] ∧ Rp K Hb v d ∧ Rp K Hb w e := by
  cases h with
  | cons r t =>
    obtain ⟨w, e, q⟩ := t.one_inv
    exact ⟨_, w, by rw [e], r, q⟩
theorem cd_lenT {ds : List D} : CD K (fun xs H Q => ∃ p ys, xs = [.ref p] ∧ (SqL K H p ys ∨ SqT K H p ys) ∧ Q (.int ys.length) H) [.tup ds] (.int ds.length) := fun vs Hb H s r Q k => by
  obtain ⟨v, rfl, r1⟩ := r.one_inv
  cases r1 with
  | tup h r =>
    refine ⟨_, _, rfl, .inr (SqT.of (s _ _ h)), ?_⟩
    rw [r.len]
    exact k _ Hb H (.refl s) (.int _)
theorem cd_lenL {ds : List D} : CD K (fun xs H Q => ∃ p ys, xs = [.ref p] ∧ (SqL K H p ys ∨ SqT K H p ys) ∧ Q (.int ys.length) H) [.lst ds] (.int ds.length) := fun vs Hb H s r Q k => by
  obtain ⟨v, rfl, r1⟩ := r.one_inv
  cases r1 with
  | lst h r =>
    refine ⟨_, _, rfl, .inl (SqL.of (s _ _ h)), ?_⟩
    rw [r.len]
    exact k _ Hb H (.refl s) (.int _)
theorem cd_lenS {ns : List Int} : CD K (fun xs H Q => ∃ p ys, xs = [.ref p] ∧ (SqL K H p ys ∨ SqT K H p ys) ∧ Q (.int ys.length) H) [.scr ns] (.int ns.length) := fun vs Hb H s r Q k => by
  obtain ⟨v, rfl, r1⟩ := r.one_inv
  cases r1 with
  | scr h =>
    refine ⟨_, _, rfl, .inl (s.seq h), ?_⟩
    rw [List.length_map]
    exact k _ Hb H (.refl s) (.int _)
theorem cd_lenStr {z : Str} (hz : z.length ≤ 100000) : CD K (fun xs H Q => ∃ z, xs = [.str z] ∧ z.length ≤ sizeLine ∧ Q (.int z.length) H) [.str z] (.int z.length) := fun vs Hb H s r Q k => by
  obtain ⟨v, rfl, r1⟩ := r.one_inv
  cases r1
  exact ⟨_, rfl, sz5 hz, k _ Hb H (.refl s) (.int _)⟩
theorem cd_sum {ns : List Int} : CD K (rSum K) [.lst (ns.map .int)] (.int ns.sum) := fun vs Hb H s r Q k => by
  obtain ⟨v, rfl, r1⟩ := r.one_inv
  cases r1 with
  | lst h r =>
    have e := r.ints
    subst e
    exact ⟨_, ns, rfl, SqL.of (s _ _ h), k _ Hb H (.refl s) (.int _)⟩
theorem cd_all {bs : List Bool} : CD K (rAll K) [.lst (bs.map .bl)] (.bl (bs.all id)) := fun vs Hb H s r Q k => by
  obtain ⟨v, rfl, r1⟩ := r.one_inv
  cases r1 with
  | lst h r =>
    have e := r.bls
    subst e
    exact ⟨_, bs, rfl, SqL.of (s _ _ h), k _ Hb H (.refl s) (.bl _)⟩
theorem cd_max {ns : List Int} {m : Int} (hm : m ∈ ns) (hle : ∀ y ∈ ns, y ≤ m) : CD K (rMax K) [.lst (ns.map .int)] (.int m) := fun vs Hb H s r Q k => by
  obtain ⟨v, rfl, r1⟩ := r.one_inv
  cases r1 with
  | lst h r =>
    have e := r.ints
    subst e
    refine ⟨_, ns, rfl, SqL.of (s _ _ h), List.length_pos_of_mem hm, fun m' h1 h2 => ?_⟩
    have e : m' = m := Int.le_antisymm (hle _ h1) (h2 _ hm)
    subst e
    exact k _ Hb H (.refl s) (.int _)
theorem cd_max2 {i j : Int} : CD K (fun xs H Q => ∃ i j, xs = [.int i, .int j] ∧ Q (.int (if j > i then j else i)) H) [.int i, .int j] (.int (max i j)) := fun vs Hb H s r Q k => by
  obtain ⟨v, w, rfl, r1, r2⟩ := r.two_inv
  cases r1
  cases r2
  refine ⟨i, j, rfl, ?_⟩
  rw [show (if j > i then j else i) = max i j by omega]
  exact k _ Hb H (.refl s) (.int _)
theorem cd_abs {i : Int} : CD K (fun xs H Q => ∃ i, xs = [.int i] ∧ Q (.int (if i < 0 then -i else i)) H) [.int i] (.int (i.natAbs : Int)) := fun vs Hb H s r Q k => by
  obtain ⟨v, rfl, r1⟩ := r.one_inv
  cases r1
  refine ⟨i, rfl, ?_⟩
  rw [show (if i < 0 then -i else i) = (i.natAbs : Int) by omega]
  exact k _ Hb H (.refl s) (.int _)
theorem cd_int1 {i : Int} : CD K (fun xs H Q => (∃ i, xs = [.int i] ∧ Q (.int i) H) ∨ ∃ k, xs = [.bl k] ∧ Q (.int (if k then 1 else 0)) H) [.int i] (.int i) := fun vs Hb H s r Q k => by
  obtain ⟨v, rfl, r1⟩ := r.one_inv
  cases r1
  exact .inl ⟨i, rfl, k _ Hb H (.refl s) (.int _)⟩
theorem cd_tupleL {ds : List D} : CD K (fun xs H Q => ∃ p ys, xs = [.ref p] ∧ ((SqL K H p ys ∧ ∀ l, H l = none → Q (.ref l) (upd H l (.tup ys))) ∨ (SqT K H p ys ∧ Q (.ref p) H))) [.lst ds] (.tup ds) := fun vs Hb H s r Q k => by
  obtain ⟨v, rfl, r1⟩ := r.one_inv
  cases r1 with
  | lst h r => exact ⟨_, _, rfl, .inl ⟨SqL.of (s _ _ h), fun p hp => k _ (upd Hb p (.tup _)) _ (.new s hp) (.tup upd_same (r.ext (Gr.new s hp).b))⟩⟩
theorem cd_listT {ds : List D} : CD K (fun xs H Q => ∃ p ys, xs = [.ref p] ∧ (SqL K H p ys ∨ SqT K H p ys) ∧ ∀ l, H l = none → Q (.ref l) (upd H l (.lst ys))) [.tup ds] (.lst ds) := fun vs Hb H s r Q k => by
  obtain ⟨v, rfl, r1⟩ := r.one_inv
  cases r1 with
  | tup h r => exact ⟨_, _, rfl, .inr (SqT.of (s _ _ h)), fun p hp => k _ (upd Hb p (.lst _)) _ (.new s hp) (.lst upd_same (r.ext (Gr.new s hp).b))⟩
theorem cd_listL {ds : List D} : CD K (fun xs H Q => ∃ p ys, xs = [.ref p] ∧ (SqL K H p ys ∨ SqT K H p ys) ∧ ∀ l, H l = none → Q (.ref l) (upd H l (.lst ys))) [.lst ds] (.lst ds) := fun vs Hb H s r Q k => by
  obtain ⟨v, rfl, r1⟩ := r.one_inv
  cases r1 with
  | lst h r => exact ⟨_, _, rfl, .inl (SqL.of (s _ _ h)), fun p hp => k _ (upd Hb p (.lst _)) _ (.new s hp) (.lst upd_same (r.ext (Gr.new s hp).b))⟩
/-- list(range(n)) -/
theorem rd_listRg1 {δ : DS} {ta : TE} {n : Int} (h : RD K ta δ (.int n)) (h0 : 0 ≤ n) (h1 : n ≤ 100000) : RD K (tLstRg (tRg1 ta)) δ (.lst ((List.range n.toNat).map fun i => .int (i : Nat))) := fun A σ Hb H q Q k =>
  h A σ Hb H q _ fun v Hb1 H1 g1 r1 => by
    cases r1
    refine ⟨n, rfl, .of_le (Int.le_refl 0) (by omega) (by omega) h0, fun p hp => ?_⟩
    refine k _ (upd Hb1 p (.lst (rgV 0 n))) _ (g1.trans (.new g1.s hp)) (.lst upd_same ?_)
    have e : rgV 0 n = ((List.range n.toNat).map fun i => ((i : Nat) : Int)).map V.int := by
      unfold rgV
      rw [List.map_map, show (n - 0).toNat = n.toNat by omega]
      apply List.map_congr_left
      intro i _
      show V.int (0 + (i : Int)) = V.int (i : Int)
      rw [Int.zero_add]
    rw [e, show ((List.range n.toNat).map fun i => D.int ((i : Nat) : Int)) = ((List.range n.toNat).map fun i => ((i : Nat) : Int)).map D.int by rw [List.map_map]; rfl]
    exact .ofInts _
/-- isinstance(x, T), T a built-in class -/
def D.ty : D → String
  | .non => "NoneType"
  | .bl _ => "bool"
  | .int _ => "int"
  | .str _ => "str"
  | .tup _ => "tuple"
  | .lst _ => "list"
  | .scr _ => "list"
  | .dic _ => "dict"
  | .ins _ _ => ""
def D.base : D → Bool
  | .ins _ _ => false
  | .scr _ => false
  | _ => true
theorem Rp.tyX {Hb H : Hp} {x : V} {d : D} (h : Rp K Hb x d) (s : Same Hb H) (hb : d.base = true) : TyX K H x (.type d.ty) := by
  cases h with
  | non => exact .base .non
  | bl b => exact .base (.bl b)
  | int i => exact .base (.int i)
  | str x => exact .base (.str x)
  | tup h _ => exact .base (.tup (s _ _ h))
  | lst h _ => exact .base (.lst (s _ _ h))
  | ins _ _ => cases hb
  | dic h _ => exact .base (.dK (s _ _ h))
  | scr _ => cases hb
/-- isinstance(e, T) as the walk gives it: T's name stands as a constant -/
theorem rd_isi {δ : DS} {te : TE} {d : D} {T : String} {b : Bool} (h : RD K te δ d) (hb : d.base = true) (hk : kitB d.ty T = some b) : RD K (tCB (rIsi K) (tCons te (tCons (tC (.ty T)) tNil))) δ (.bl b) := fun A σ Hb H q Q k =>
  h A σ Hb H q _ fun v Hb1 H1 g1 r1 => ⟨v, .ty T, _, _, b, rfl, .ty T, r1.tyX g1.s hb, kit_ty hk, k _ Hb1 H1 g1 (.bl b)⟩
end

/-! ### what is walked -/
def Walks (K : PySem.W.Frag) (J : It) (Hb : Hp) (ds : List D) : Prop :=
  ∀ Hb' H', Same Hb Hb' → Same Hb' H' → J.stop ds.length H' ∧ ∀ (i : Nat) (d : D), ds[i]? = some d → J.go i H' ∧ ∀ x H2, J.yld i H' x H2 → ∃ Hb2, Gr Hb' H' Hb2 H2 ∧ Rp K Hb2 x d
def WI (K : PySem.W.Frag) (wi : TI) (δ : DS) (ds : List D) : Prop :=
  ∀ (A : Hp × Hp) (σ : L2.St) (Hb H : Hp), At K A Hb H σ δ → ∀ R : It → Hp → Prop, (∀ J Hb' H', Gr Hb H Hb' H' → Walks K J Hb' ds → R J H') → wi σ H R
section
variable {K : PySem.W.Frag} {δ : DS}
theorem wi_tup {tl : TE} {ds : List D} (h : RD K tl δ (.tup ds)) : WI K (iTup K tl) δ ds := fun A σ Hb H q R k =>
  h A σ Hb H q _ fun v Hb1 H1 g1 r1 => by
    cases r1 with
    | @tup a xs _ hx r =>
      refine ⟨a, rfl, ⟨xs, SqT.of (g1.s _ _ hx)⟩, k _ Hb1 H1 g1 fun Hb2 H2 e2 s2 => ⟨⟨xs, SqT.of (s2 _ _ (e2 _ _ hx)), by rw [r.len]; exact Nat.le_refl _⟩, fun i d hd => ?_⟩⟩
      obtain ⟨v, hv, rv⟩ := r.get hd
      refine ⟨⟨xs, v, SqT.of (s2 _ _ (e2 _ _ hx)), hv⟩, fun x H3 hy => ?_⟩
      obtain ⟨rfl, hy⟩ := hy
      have e := hy xs (SqT.of (s2 _ _ (e2 _ _ hx)))
      rw [hv] at e
      cases e
      exact ⟨Hb2, .refl s2, rv.ext e2⟩
theorem wi_list {tl : TE} {ds : List D} (h : RD K tl δ (.lst ds)) : WI K (iList K tl) δ ds := fun A σ Hb H q R k =>
  h A σ Hb H q _ fun v Hb1 H1 g1 r1 => by
    cases r1 with
    | @lst a xs _ hx r =>
      refine ⟨a, rfl, ⟨xs, SqL.of (g1.s _ _ hx)⟩, k _ Hb1 H1 g1 fun Hb2 H2 e2 s2 => ⟨⟨xs, SqL.of (s2 _ _ (e2 _ _ hx)), by rw [r.len]; exact Nat.le_refl _⟩, fun i d hd => ?_⟩⟩
      obtain ⟨v, hv, rv⟩ := r.get hd
      refine ⟨⟨xs, v, SqL.of (s2 _ _ (e2 _ _ hx)), hv⟩, fun x H3 hy => ?_⟩
      obtain ⟨rfl, hy⟩ := hy
      have e := hy xs (SqL.of (s2 _ _ (e2 _ _ hx)))
      rw [hv] at e
      cases e
      exact ⟨Hb2, .refl s2, rv.ext e2⟩
def rngD (lo : Int) (n : Nat) : List D := (List.range n).map fun i => .int (lo + (i : Nat))
theorem rngD_len (lo : Int) (n : Nat) : (rngD lo n).length = n := by unfold rngD; rw [List.length_map, List.length_range]
theorem rngD_get {lo : Int} {n i : Nat} {d : D} (h : (rngD lo n)[i]? = some d) : i < n ∧ d = .int (lo + (i : Nat)) := by
  have hi : i < n := by
    have := (List.getElem?_eq_some_iff.mp h).1
    rwa [rngD_len] at this
  unfold rngD at h
  rw [List.getElem?_map, List.getElem?_range hi] at h
  cases h
  exact ⟨hi, rfl⟩
theorem walks_rng {Hb : Hp} {lo : Int} {n : Nat} : Walks K (Itr lo n) Hb (rngD lo n) := fun Hb2 H2 e2 s2 => ⟨by rw [rngD_len]; exact Nat.le_refl n, fun i d hd => by
  obtain ⟨hi, rfl⟩ := rngD_get hd
  refine ⟨hi, fun x H3 hy => ?_⟩
  obtain ⟨rfl, rfl⟩ := hy
  exact ⟨Hb2, .refl s2, .int _⟩⟩
theorem wi_rng1 {ta : TA} {n : Int} (h : RA K ta δ [.int n]) (h0 : -100000 ≤ n) (h1 : n ≤ 100000) : WI K (iRng1 ta) δ (rngD 0 n.toNat) := fun A σ Hb H q R k =>
  h A σ Hb H q _ fun vs Hb1 H1 g1 r1 => by
    obtain ⟨v, rfl, r⟩ := r1.one_inv
    cases r
    exact ⟨n, rfl, by omega, by omega, k _ Hb1 H1 g1 walks_rng⟩
theorem wi_rng2 {ta : TA} {m n : Int} (h : RA K ta δ [.int m, .int n]) (hm0 : -100000 ≤ m) (hm1 : m ≤ 100000) (h0 : -100000 ≤ n) (h1 : n ≤ 100000) : WI K (iRng2 ta) δ (rngD m (n - m).toNat) := fun A σ Hb H q R k =>
  h A σ Hb H q _ fun vs Hb1 H1 g1 r1 => by
    obtain ⟨v, w, rfl, r, r'⟩ := r1.two_inv
    cases r
    cases r'
    exact ⟨m, n, rfl, ⟨by omega, by omega, by omega, by omega⟩, k _ Hb1 H1 g1 walks_rng⟩
def zipD (as bs : List D) : List D := List.zipWith (fun a b => .tup [a, b]) as bs
theorem zipD_get {as bs : List D} {i : Nat} {d : D} (h : (zipD as bs)[i]? = some d) : ∃ a b, as[i]? = some a ∧ bs[i]? = some b ∧ d = .tup [a, b] := by
  unfold zipD at h
  rw [List.getElem?_zipWith] at h
  cases ha : as[i]? with
  | none =>
    rw [ha] at h
    cases h
  | some a =>
    cases hb : bs[i]? with
    | none =>
      rw [ha, hb] at h
      cases h
    | some b =>
      rw [ha, hb] at h
      cases h
      exact ⟨a, b, rfl, rfl, rfl⟩
theorem wi_zipT {ta : TA} {as bs : List D} (h : RA K ta δ [.tup as, .tup bs]) : WI K (RZ.iZipA K ta) δ (zipD as bs) := fun A σ Hb H q R k =>
  h A σ Hb H q _ fun vs Hb1 H1 g1 r1 => by
    obtain ⟨v, w, rfl, r, r'⟩ := r1.two_inv
    cases r with
    | @tup a xs _ hx r =>
      cases r' with
      | @tup b ys _ hy r' =>
        refine ⟨a, b, xs, ys, rfl, .inr ⟨SqT.of (g1.s _ _ hx), SqT.of (g1.s _ _ hy), k _ Hb1 H1 g1 fun Hb2 H2 e2 s2 => ?_⟩⟩
        have qx : SqT K H2 a xs := SqT.of (s2 _ _ (e2 _ _ hx))
        have qy : SqT K H2 b ys := SqT.of (s2 _ _ (e2 _ _ hy))
        refine ⟨⟨xs, ys, qx, qy, ?_⟩, fun i d hd => ?_⟩
        · unfold zipD
          rw [List.length_zipWith, r.len, r'.len]
          omega
        · obtain ⟨da, db, h1, h2, rfl⟩ := zipD_get hd
          obtain ⟨v1, hv1, rv1⟩ := r.get h1
          obtain ⟨v2, hv2, rv2⟩ := r'.get h2
          refine ⟨⟨xs, ys, v1, v2, qx, qy, hv1, hv2⟩, fun x H3 hz => ?_⟩
          obtain ⟨T, x1, x2, rfl, hT, rfl, f1, f2⟩ := hz
          have e1 := f1 xs qx
          have e3 := f2 ys qy
          rw [hv1] at e1
          rw [hv2] at e3
          cases e1
          cases e3
          exact ⟨upd Hb2 T (.tup [v1, v2]), .new s2 hT, .tup upd_same (.cons ((rv1.ext e2).ext (Gr.new s2 hT).b) (.one ((rv2.ext e2).ext (Gr.new s2 hT).b)))⟩
theorem wi_zipL {ta : TA} {as bs : List D} (h : RA K ta δ [.lst as, .lst bs]) : WI K (RZ.iZipA K ta) δ (zipD as bs) := fun A σ Hb H q R k =>
  h A σ Hb H q _ fun vs Hb1 H1 g1 r1 => by
    obtain ⟨v, w, rfl, r, r'⟩ := r1.two_inv
    cases r with
    | @lst a xs _ hx r =>
      cases r' with
      | @lst b ys _ hy r' =>
        refine ⟨a, b, xs, ys, rfl, .inl ⟨SqL.of (g1.s _ _ hx), SqL.of (g1.s _ _ hy), k _ Hb1 H1 g1 fun Hb2 H2 e2 s2 => ?_⟩⟩
        have qx : SqL K H2 a xs := SqL.of (s2 _ _ (e2 _ _ hx))
        have qy : SqL K H2 b ys := SqL.of (s2 _ _ (e2 _ _ hy))
        refine ⟨⟨xs, ys, qx, qy, ?_⟩, fun i d hd => ?_⟩
        · unfold zipD
          rw [List.length_zipWith, r.len, r'.len]
          omega
        · obtain ⟨da, db, h1, h2, rfl⟩ := zipD_get hd
          obtain ⟨v1, hv1, rv1⟩ := r.get h1
          obtain ⟨v2, hv2, rv2⟩ := r'.get h2
          refine ⟨⟨xs, ys, v1, v2, qx, qy, hv1, hv2⟩, fun x H3 hz => ?_⟩
          obtain ⟨T, x1, x2, rfl, hT, rfl, f1, f2⟩ := hz
          have e1 := f1 xs qx
          have e3 := f2 ys qy
          rw [hv1] at e1
          rw [hv2] at e3
          cases e1
          cases e3
          exact ⟨upd Hb2 T (.tup [v1, v2]), .new s2 hT, .tup upd_same (.cons ((rv1.ext e2).ext (Gr.new s2 hT).b) (.one ((rv2.ext e2).ext (Gr.new s2 hT).b)))⟩
end

/-! ### targets -/
/-- is: the slots that are stored -/
def GD (K : PySem.W.Frag) (g : TG) (is : List Nat) (d : D) (δ δ' : DS) : Prop :=
  ∀ (A : Hp × Hp) (σ : L2.St) (Hb H : Hp) (v : V), At K A Hb H σ δ → Rp K Hb v d → ∀ Q : L2.St → Hp → Prop, (∀ σ', At K A Hb H σ' δ' → (∀ vs : List Nat, (∀ i ∈ is, i ∈ vs) → L2.wipe σ' vs = L2.wipe σ vs) → Q σ' H) → g v σ H Q
def GDs (K : PySem.W.Frag) (g : TGs) (is : List Nat) (ds : List D) (δ δ' : DS) : Prop :=
  ∀ (A : Hp × Hp) (σ : L2.St) (Hb H : Hp) (vs : List V), At K A Hb H σ δ → RpA K Hb vs ds → ∀ Q : L2.St → Hp → Prop, (∀ σ', At K A Hb H σ' δ' → (∀ ws : List Nat, (∀ i ∈ is, i ∈ ws) → L2.wipe σ' ws = L2.wipe σ ws) → Q σ' H) → g vs σ H Q
section
variable {K : PySem.W.Frag} {δ δ1 δ2 : DS}
theorem gd_name {i : Nat} {d : D} : GD K (gName i) [i] d δ (δ.set i (.dat d)) := fun A σ Hb H v h r Q k => k _ (h.set r) fun vs hv => wipe_set (hv i (List.mem_singleton.mpr rfl))
theorem gds_nil : GDs K gNil [] [] δ δ := fun A σ Hb H vs h r Q k => by
  cases r
  exact ⟨rfl, k σ h fun _ _ => rfl⟩
theorem gds_cons {g : TG} {t : TGs} {is js : List Nat} {d : D} {ds : List D} (h1 : GD K g is d δ δ1) (h2 : GDs K t js ds δ1 δ2) : GDs K (gCons g t) (is ++ js) (d :: ds) δ δ2 := fun A σ Hb H vs h r Q k => by
  cases r with
  | cons r rr =>
    refine ⟨_, _, rfl, h1 A σ Hb H _ h r _ fun σ1 h3 w1 => h2 A σ1 Hb H _ h3 rr Q fun σ2 h4 w2 => k σ2 h4 fun ws hw => ?_⟩
    rw [w2 ws fun i hi => hw i (List.mem_append_right _ hi), w1 ws fun i hi => hw i (List.mem_append_left _ hi)]
theorem gd_tup {n : Nat} {t : TGs} {is : List Nat} {ds : List D} (h : GDs K t is ds δ δ1) (hn : ds.length = n) : GD K (gTup K n t) is (.tup ds) δ δ1 := fun A σ Hb H v q r Q k => by
  cases r with
  | tup hx r => exact ⟨_, _, rfl, SqT.of (q.gr.s _ _ hx), r.len.trans hn, h A σ Hb H _ q r Q k⟩
theorem gd_tup2 {i j : Nat} {a b : D} : GD K (gTup K 2 (gCons (gName i) (gCons (gName j) gNil))) [i, j] (.tup [a, b]) δ ((δ.set i (.dat a)).set j (.dat b)) := gd_tup (gds_cons gd_name (gds_cons gd_name gds_nil)) rfl
theorem gd_tup3 {i j l : Nat} {a b c : D} : GD K (gTup K 3 (gCons (gName i) (gCons (gName j) (gCons (gName l) gNil)))) [i, j, l] (.tup [a, b, c]) δ (((δ.set i (.dat a)).set j (.dat b)).set l (.dat c)) := gd_tup (gds_cons gd_name (gds_cons gd_name (gds_cons gd_name gds_nil))) rfl
theorem gd_tup4 {i j l m : Nat} {a b c d : D} : GD K (gTup K 4 (gCons (gName i) (gCons (gName j) (gCons (gName l) (gCons (gName m) gNil))))) [i, j, l, m] (.tup [a, b, c, d]) δ ((((δ.set i (.dat a)).set j (.dat b)).set l (.dat c)).set m (.dat d)) :=
  gd_tup (gds_cons gd_name (gds_cons gd_name (gds_cons gd_name (gds_cons gd_name gds_nil)))) rfl
end

/-! ### comprehensions -/
section
variable {K : PySem.W.Frag} {δ : DS}
theorem take_snoc {α : Type} {l : List α} {i : Nat} {x : α} (h : l[i]? = some x) : l.take (i + 1) = l.take i ++ [x] := by
  rw [List.take_succ, h]
  rfl
theorem rd_lcF {wi : TI} {g : TG} {tt : TT} {te : TE} {vs : List Nat} {ds : List D} {p : D → Bool} {f : D → D} (hw : WI K wi δ ds) (hz : ds.length ≤ 99999)
    (hs : ∀ (i : Nat) (d : D), ds[i]? = some d → ∃ is δ2, GD K g is d (DS.wipe δ vs) δ2 ∧ (∀ i ∈ is, i ∈ vs) ∧ RT K tt δ2 (p d) ∧ (p d = true → RD K te δ2 (f d))) :
    RD K (tLc wi g tt te vs) δ (.lst ((ds.filter p).map f)) := fun A σ Hb H q Q k =>
  hw A σ Hb H q _ fun J Hb1 H1 g1 wk => fun Dl hD => by
    have hD0 : Hb1 Dl = none := g1.s.free hD
    refine ⟨fun i m H' => m = ds.length - i ∧ i ≤ ds.length ∧ ∃ Hb' acc, Gr Hb1 H1 Hb' H' ∧ Hb' Dl = none ∧ H' Dl = some (.lst acc) ∧ RpA K Hb' acc (((ds.take i).filter p).map f),
      ⟨ds.length, by simp, Nat.zero_le _, Hb1, [], Gr.newO g1.s hD, hD0, upd_same, .nil⟩, ?_⟩
    rintro i m H' ⟨rfl, hi, Hb', acc, g2, hD1, hD2, ra⟩
    obtain ⟨stop, step⟩ := wk Hb' H' g2.b g2.s
    by_cases hlt : i < ds.length
    · obtain ⟨go, yld⟩ := step i ds[i] (List.getElem?_eq_getElem hlt)
      refine .inr ⟨go, fun H3 => i + 1 ≤ ds.length ∧ ∃ Hb' acc, Gr Hb1 H1 Hb' H3 ∧ Hb' Dl = none ∧ H3 Dl = some (.lst acc) ∧ RpA K Hb' acc (((ds.take (i + 1)).filter p).map f), fun H3 z => ⟨ds.length - (i + 1), by omega, rfl, z⟩, fun x H3 hy => ?_⟩
      obtain ⟨Hb3, g3, rx⟩ := yld x H3 hy
      have hD3 : Hb3 Dl = none := g3.o _ hD1 (by rw [hD2]; simp)
      have hD4 : H3 Dl = some (.lst acc) := g3.h _ _ hD2
      have g13 := g2.trans g3
      obtain ⟨is, δ2, G, his, T, E⟩ := hs i ds[i] (List.getElem?_eq_getElem hlt)
      refine G A _ Hb3 H3 x ((q.grow (g1.trans g13)).wipe vs) rx _ fun σ2 h2 wp => ⟨?_, ?_⟩
      · rw [wp vs his, wipe_idem]
      · refine T A σ2 Hb3 H3 h2 _ fun Hb4 H4 g4 => ?_
        have hD5 : Hb4 Dl = none := g4.o _ hD3 (by rw [hD4]; simp)
        have hD6 : H4 Dl = some (.lst acc) := g4.h _ _ hD4
        have tk : ds.take (i + 1) = ds.take i ++ [ds[i]] := take_snoc (List.getElem?_eq_getElem hlt)
        have mutt : ∀ {Hb5 H5 : Hp} {o : HO}, Gr Hb1 H1 Hb5 H5 → Hb5 Dl = none → Gr Hb1 H1 Hb5 (upd H5 Dl o) := fun {Hb5 H5 o} gg hn =>
          ⟨gg.b, fun b u e => by rw [upd_ne (ne_of_none e hD)]; exact gg.h b u e, fun b u e => by rw [upd_ne (ne_of_none e hn)]; exact gg.s b u e, gg.o⟩
        cases hp : p ds[i] with
        | false =>
          show i + 1 ≤ ds.length ∧ _
          refine ⟨hlt, Hb4, acc, g13.trans g4, hD5, hD6, ?_⟩
          rw [tk, List.filter_append, List.filter_cons_of_neg (by rw [hp]; exact Bool.false_ne_true), List.filter_nil, List.append_nil]
          exact (ra.ext g3.b).ext g4.b
        | true =>
          show te σ2 H4 _
          refine E hp A σ2 Hb4 H4 (h2.grow g4) _ fun y Hb5 H5 g5 ry => ?_
          have hD7 : Hb5 Dl = none := g5.o _ hD5 (by rw [hD6]; simp)
          have hl : acc.length ≤ i := by
            rw [ra.len, List.length_map]
            refine Nat.le_trans (List.length_filter_le _ _) ?_
            rw [List.length_take]
            exact Nat.min_le_left _ _
          refine ⟨acc, g5.h _ _ hD6, szl5 (by omega), hlt, Hb5, acc ++ [y], mutt ((g13.trans g4).trans g5) hD7, hD7, upd_same, ?_⟩
          rw [tk, List.filter_append, List.filter_cons_of_pos hp, List.filter_nil, List.map_append]
          exact (((ra.ext g3.b).ext g4.b).ext g5.b).app (.one ry)
    · have e : i = ds.length := by omega
      subst e
      refine .inl ⟨stop, k _ (upd Hb' Dl (.lst acc)) H' ?_ (.lst upd_same ?_)⟩
      · refine ⟨(g1.b.trans g2.b).trans (same_new hD1), g1.h.trans g2.h, fun b u e => ?_, fun a h1 h2 => ?_⟩
        · by_cases z : b = Dl
          · subst z
            rw [upd_same] at e
            cases e
            exact hD2
          · rw [upd_ne z] at e
            exact g2.s b u e
        · have z : a ≠ Dl := fun z => by
            subst z
            cases w : H a with
            | none => exact h2 w
            | some u =>
              have := g1.h a u w
              rw [hD] at this
              cases this
          rw [upd_ne z]
          exact g2.o a (g1.o a h1 h2) fun w => h2 (g1.h.free w)
      · rw [List.take_length] at ra
        exact ra.ext (same_new hD1)
/-- without a test -/
theorem rd_lc {wi : TI} {g : TG} {te : TE} {vs : List Nat} {ds : List D} {f : D → D} (hw : WI K wi δ ds) (hz : ds.length ≤ 99999)
    (hs : ∀ (i : Nat) (d : D), ds[i]? = some d → ∃ is δ2, GD K g is d (DS.wipe δ vs) δ2 ∧ (∀ i ∈ is, i ∈ vs) ∧ RD K te δ2 (f d)) : RD K (tLc wi g tYes te vs) δ (.lst (ds.map f)) := by
  have h := rd_lcF (p := fun _ => true) (f := f) (tt := tYes) hw hz fun i d hd => by
    obtain ⟨is, δ2, h1, h2, h3⟩ := hs i d hd
    exact ⟨is, δ2, h1, h2, rt_yes, fun _ => h3⟩
  rwa [List.filter_eq_self.mpr fun _ _ => rfl] at h
/-- the elements by their places -/
theorem rd_lcG {wi : TI} {g : TG} {te : TE} {vs : List Nat} {ds es : List D} (hw : WI K wi δ ds) (hz : ds.length ≤ 99999) (hl : ds.length = es.length)
    (hs : ∀ (i : Nat) (d e : D), ds[i]? = some d → es[i]? = some e → ∃ is δ2, GD K g is d (DS.wipe δ vs) δ2 ∧ (∀ i ∈ is, i ∈ vs) ∧ RD K te δ2 e) : RD K (tLc wi g tYes te vs) δ (.lst es) := fun A σ Hb H q Q k =>
  hw A σ Hb H q _ fun J Hb1 H1 g1 wk => fun Dl hD => by
    have hD0 : Hb1 Dl = none := g1.s.free hD
    refine ⟨fun i m H' => m = ds.length - i ∧ i ≤ ds.length ∧ ∃ Hb' acc, Gr Hb1 H1 Hb' H' ∧ Hb' Dl = none ∧ H' Dl = some (.lst acc) ∧ RpA K Hb' acc (es.take i),
      ⟨ds.length, by simp, Nat.zero_le _, Hb1, [], Gr.newO g1.s hD, hD0, upd_same, .nil⟩, ?_⟩
    rintro i m H' ⟨rfl, hi, Hb', acc, g2, hD1, hD2, ra⟩
    obtain ⟨stop, step⟩ := wk Hb' H' g2.b g2.s
    by_cases hlt : i < ds.length
    · have hlt2 : i < es.length := by omega
      obtain ⟨go, yld⟩ := step i ds[i] (List.getElem?_eq_getElem hlt)
      refine .inr ⟨go, fun H3 => i + 1 ≤ ds.length ∧ ∃ Hb' acc, Gr Hb1 H1 Hb' H3 ∧ Hb' Dl = none ∧ H3 Dl = some (.lst acc) ∧ RpA K Hb' acc (es.take (i + 1)), fun H3 z => ⟨ds.length - (i + 1), by omega, rfl, z⟩, fun x H3 hy => ?_⟩
      obtain ⟨Hb3, g3, rx⟩ := yld x H3 hy
      have hD3 : Hb3 Dl = none := g3.o _ hD1 (by rw [hD2]; simp)
      have hD4 : H3 Dl = some (.lst acc) := g3.h _ _ hD2
      have g13 := g2.trans g3
      obtain ⟨is, δ2, G, his, E⟩ := hs i ds[i] es[i] (List.getElem?_eq_getElem hlt) (List.getElem?_eq_getElem hlt2)
      refine G A _ Hb3 H3 x ((q.grow (g1.trans g13)).wipe vs) rx _ fun σ2 h2 wp => ⟨?_, ?_⟩
      · rw [wp vs his, wipe_idem]
      · have tk : es.take (i + 1) = es.take i ++ [es[i]] := take_snoc (List.getElem?_eq_getElem hlt2)
        have mutt : ∀ {Hb5 H5 : Hp} {o : HO}, Gr Hb1 H1 Hb5 H5 → Hb5 Dl = none → Gr Hb1 H1 Hb5 (upd H5 Dl o) := fun {Hb5 H5 o} gg hn =>
          ⟨gg.b, fun b u e => by rw [upd_ne (ne_of_none e hD)]; exact gg.h b u e, fun b u e => by rw [upd_ne (ne_of_none e hn)]; exact gg.s b u e, gg.o⟩
        show te σ2 H3 _
        refine E A σ2 Hb3 H3 h2 _ fun y Hb5 H5 g5 ry => ?_
        have hD7 : Hb5 Dl = none := g5.o _ hD3 (by rw [hD4]; simp)
        have hl : acc.length ≤ i := by
          rw [ra.len, List.length_take]
          exact Nat.min_le_left _ _
        refine ⟨acc, g5.h _ _ hD4, szl5 (by omega), hlt, Hb5, acc ++ [y], mutt (g13.trans g5) hD7, hD7, upd_same, ?_⟩
        rw [tk]
        exact ((ra.ext g3.b).ext g5.b).app (.one ry)
    · have e : i = ds.length := by omega
      subst e
      refine .inl ⟨stop, k _ (upd Hb' Dl (.lst acc)) H' ?_ (.lst upd_same ?_)⟩
      · refine ⟨(g1.b.trans g2.b).trans (same_new hD1), g1.h.trans g2.h, fun b u e => ?_, fun a h1 h2 => ?_⟩
        · by_cases z : b = Dl
          · subst z
            rw [upd_same] at e
            cases e
            exact hD2
          · rw [upd_ne z] at e
            exact g2.s b u e
        · have z : a ≠ Dl := fun z => by
            subst z
            cases w : H a with
            | none => exact h2 w
            | some u =>
              have := g1.h a u w
              rw [hD] at this
              cases this
          rw [upd_ne z]
          exact g2.o a (g1.o a h1 h2) fun w => h2 (g1.h.free w)
      · rw [hl, List.take_length] at ra
        exact ra.ext (same_new hD1)
end
end K17
namespace K17
open PySem L2 PySem.Spec PyProof.Rows

/-! ### data as plain data; == -/
mutual
def D.py : D → PyData
  | .non => .none
  | .bl b => .bool b
  | .int i => .int i
  | .str x => .str x
  | .tup ds => .tuple (D.pyL ds)
  | .lst ds => .list (D.pyL ds)
  | .scr ns => .list (ns.map .int)
  | .ins _ _ => .none
  | .dic _ => .none
def D.pyL : List D → List PyData
  | [] => []
  | d :: ds => D.py d :: D.pyL ds
end
mutual
def D.plain : D → Bool
  | .tup ds => D.plainL ds
  | .lst ds => D.plainL ds
  | .ins _ _ => false
  | .dic _ => false
  | _ => true
def D.plainL : List D → Bool
  | [] => true
  | d :: ds => D.plain d && D.plainL ds
end
section
variable {K : PySem.W.Frag} {Hb H : Hp}
theorem Rp.dp (s : Same Hb H) {v : V} {d : D} (h : Rp K Hb v d) : d.plain = true → Dp K H v d.py :=
  Rp.rec (motive_1 := fun v d _ => d.plain = true → Dp K H v d.py) (motive_2 := fun v d _ => D.plainL d = true → DpAll K H v (D.pyL d)) (motive_3 := fun _ _ _ => True) (motive_4 := fun _ _ _ => True)
    (fun _ => .non) (fun b _ => .bl b) (fun i _ => .int i) (fun x _ => .str x) (fun h _ r p => .tup (SqT.of (s _ _ h)) (r p)) (fun h _ r p => .lst (SqL.of (s _ _ h)) (r p)) (fun _ _ _ p => nomatch p) (fun _ _ _ p => nomatch p)
    (fun {a ns} h _ => by
      refine Dp.lst (s.seq h) ?_
      have go : ∀ ns : List Int, DpAll K H (ns.map V.int) (ns.map PyData.int) := by
        intro ns
        induction ns with
        | nil => exact .nil
        | cons n r ih => exact .cons (.int n) ih
      exact go ns)
    (fun _ => .nil) (fun {v d vs ds} _ _ a b p => by
      have q : (D.plain d && D.plainL ds) = true := p
      rw [Bool.and_eq_true] at q
      exact .cons (a q.1) (b q.2))
    trivial (fun _ _ _ _ => trivial) trivial (fun _ _ _ _ => trivial) h
theorem od_eqD {a b : D} (pa : a.plain = true) (pb : b.plain = true) (sa : SeqAt.shaped a.py = true) (sb : SeqAt.shaped b.py = true) : OD K (rEqD K) a b (.bl (PyData.eqv a.py b.py)) := fun x y Hb H s rx ry Q k =>
  ⟨_, _, rx.dp s pa, ry.dp s pb, sa, sb, k _ Hb H (.refl s) (.bl _)⟩
theorem od_neD {a b : D} (pa : a.plain = true) (pb : b.plain = true) (sa : SeqAt.shaped a.py = true) (sb : SeqAt.shaped b.py = true) : OD K (rNeD K) a b (.bl (!PyData.eqv a.py b.py)) := fun x y Hb H s rx ry Q k =>
  ⟨_, _, rx.dp s pa, ry.dp s pb, sa, sb, k _ Hb H (.refl s) (.bl _)⟩
end
theorem pyL_map {α : Type} (f : α → D) (l : List α) : D.pyL (l.map f) = l.map fun x => (f x).py := by
  induction l with
  | nil => rfl
  | cons a l ih =>
    show (f a).py :: D.pyL (l.map f) = _
    rw [ih]
    rfl
theorem plainL_map {α : Type} (f : α → D) (l : List α) (h : ∀ a ∈ l, (f a).plain = true) : D.plainL (l.map f) = true := by
  induction l with
  | nil => rfl
  | cons a l ih =>
    show ((f a).plain && D.plainL (l.map f)) = true
    rw [h a (List.mem_cons_self ..), ih fun x hx => h x (List.mem_cons_of_mem _ hx)]
    rfl
theorem canLay_map {α : Type} (f : α → PyData) (l : List α) (h : ∀ a ∈ l, (f a).canLay0 = true) : PyData.canLayAll0 (l.map f) = true := by
  induction l with
  | nil => rfl
  | cons a l ih =>
    show (PyData.canLay0 (f a) && PyData.canLayAll0 (l.map f)) = true
    rw [h a (List.mem_cons_self ..), ih fun x hx => h x (List.mem_cons_of_mem _ hx)]
    rfl
theorem depth_map {α : Type} (f : α → PyData) (l : List α) (n : Nat) (h : ∀ a ∈ l, (f a).depth ≤ n) : PyData.depthAll (l.map f) ≤ n := by
  induction l with
  | nil => exact Nat.zero_le _
  | cons a l ih =>
    show max (PyData.depth (f a)) (PyData.depthAll (l.map f)) ≤ n
    exact Nat.max_le.mpr ⟨h a (List.mem_cons_self ..), ih fun x hx => h x (List.mem_cons_of_mem _ hx)⟩
theorem shaped_list {α : Type} (f : α → PyData) (l : List α) (h : ∀ a ∈ l, (f a).canLay0 = true ∧ (f a).depth ≤ 63) : SeqAt.shaped (.list (l.map f)) = true := by
  unfold SeqAt.shaped
  rw [Bool.and_eq_true]
  refine ⟨canLay_map f l fun a ha => (h a ha).1, decide_eq_true ?_⟩
  show PyData.depthAll (l.map f) + 1 ≤ 64
  have := depth_map f l 63 fun a ha => (h a ha).2
  omega
theorem shaped_tuple {α : Type} (f : α → PyData) (l : List α) (h : ∀ a ∈ l, (f a).canLay0 = true ∧ (f a).depth ≤ 63) : SeqAt.shaped (.tuple (l.map f)) = true := by
  unfold SeqAt.shaped
  rw [Bool.and_eq_true]
  refine ⟨canLay_map f l fun a ha => (h a ha).1, decide_eq_true ?_⟩
  show PyData.depthAll (l.map f) + 1 ≤ 64
  have := depth_map f l 63 fun a ha => (h a ha).2
  omega
theorem eqvAll_ints : ∀ as bs : List Int, PyData.eqvAll (as.map .int) (bs.map .int) = decide (as = bs)
  | [], [] => rfl
  | [], b :: bs => rfl
  | a :: as, [] => rfl
  | a :: as, b :: bs => by
    show ((a == b) && PyData.eqvAll (as.map .int) (bs.map .int)) = _
    rw [eqvAll_ints as bs]
    apply Bool.eq_iff_iff.mpr
    simp
theorem eqvAll_bls : ∀ as bs : List Bool, PyData.eqvAll (as.map .bool) (bs.map .bool) = decide (as = bs)
  | [], [] => rfl
  | [], b :: bs => rfl
  | a :: as, [] => rfl
  | a :: as, b :: bs => by
    show ((a == b) && PyData.eqvAll (as.map .bool) (bs.map .bool)) = _
    rw [eqvAll_bls as bs]
    apply Bool.eq_iff_iff.mpr
    simp
section
variable {K : PySem.W.Frag}
theorem plainI (as : List Int) : D.plainL (as.map .int) = true := plainL_map _ _ fun _ _ => rfl
theorem plainB (as : List Bool) : D.plainL (as.map .bl) = true := plainL_map _ _ fun _ _ => rfl
theorem shI (as : List Int) : SeqAt.shaped (D.lst (as.map .int)).py = true := by
  show SeqAt.shaped (.list (D.pyL (as.map .int))) = true
  rw [pyL_map]
  exact shaped_list _ _ fun _ _ => ⟨rfl, Nat.zero_le _⟩
theorem shB (as : List Bool) : SeqAt.shaped (D.lst (as.map .bl)).py = true := by
  show SeqAt.shaped (.list (D.pyL (as.map .bl))) = true
  rw [pyL_map]
  exact shaped_list _ _ fun _ _ => ⟨rfl, Nat.zero_le _⟩
theorem eqvI (as bs : List Int) : PyData.eqv (D.lst (as.map .int)).py (D.lst (bs.map .int)).py = decide (as = bs) := by
  show PyData.eqvAll (D.pyL (as.map .int)) (D.pyL (bs.map .int)) = _
  rw [pyL_map, pyL_map]
  exact eqvAll_ints as bs
theorem eqvB (as bs : List Bool) : PyData.eqv (D.lst (as.map .bl)).py (D.lst (bs.map .bl)).py = decide (as = bs) := by
  show PyData.eqvAll (D.pyL (as.map .bl)) (D.pyL (bs.map .bl)) = _
  rw [pyL_map, pyL_map]
  exact eqvAll_bls as bs
theorem od_eqLI {as bs : List Int} : OD K (rEqD K) (.lst (as.map .int)) (.lst (bs.map .int)) (.bl (decide (as = bs))) := by
  have h := od_eqD (K := K) (a := .lst (as.map .int)) (b := .lst (bs.map .int)) (plainI as) (plainI bs) (shI as) (shI bs)
  rwa [eqvI] at h
theorem od_neLI {as bs : List Int} : OD K (rNeD K) (.lst (as.map .int)) (.lst (bs.map .int)) (.bl (!decide (as = bs))) := by
  have h := od_neD (K := K) (a := .lst (as.map .int)) (b := .lst (bs.map .int)) (plainI as) (plainI bs) (shI as) (shI bs)
  rwa [eqvI] at h
theorem od_eqLB {as bs : List Bool} : OD K (rEqD K) (.lst (as.map .bl)) (.lst (bs.map .bl)) (.bl (decide (as = bs))) := by
  have h := od_eqD (K := K) (a := .lst (as.map .bl)) (b := .lst (bs.map .bl)) (plainB as) (plainB bs) (shB as) (shB bs)
  rwa [eqvB] at h
/-- the script against [] -/
theorem od_eqScr {as : List Int} : OD K (rEqD K) (.scr as) (.lst []) (.bl (decide (as = []))) := by
  have h := od_eqD (K := K) (a := .scr as) (b := .lst []) rfl rfl (shaped_list _ _ fun _ _ => ⟨rfl, Nat.zero_le _⟩) (by decide)
  have e : PyData.eqv (D.scr as).py (D.lst []).py = decide (as = []) := by
    cases as <;> rfl
  rwa [e] at h
/-- a tuple against () -/
theorem od_eqE {ds : List D} (p : D.plainL ds = true) (sh : SeqAt.shaped (D.tup ds).py = true) : OD K (rEqD K) (.tup ds) (.tup []) (.bl ds.isEmpty) := by
  have h := od_eqD (K := K) (a := .tup ds) (b := .tup []) p rfl sh (by decide)
  have e : PyData.eqv (D.tup ds).py (D.tup []).py = ds.isEmpty := by
    cases ds <;> rfl
  rwa [e] at h
theorem od_neE {ds : List D} (p : D.plainL ds = true) (sh : SeqAt.shaped (D.tup ds).py = true) : OD K (rNeD K) (.tup ds) (.tup []) (.bl (!ds.isEmpty)) := by
  have h := od_neD (K := K) (a := .tup ds) (b := .tup []) p rfl sh (by decide)
  have e : PyData.eqv (D.tup ds).py (D.tup []).py = ds.isEmpty := by
    cases ds <;> rfl
  rwa [e] at h
end

/-! ### statements -/
def SD (K : PySem.W.Frag) (t : TS) (δ : DS) (N : DS → Prop) (R : DS → D → Prop) : Prop :=
  ∀ (A : Hp × Hp) (σ : L2.St) (Hb H : Hp), At K A Hb H σ δ → ∀ Dn : Ends,
    (∀ δ' σ' Hb' H', N δ' → Same Hb Hb' → At K A Hb' H' σ' δ' → Dn.nx σ' H') →
    (∀ δ' d v σ' Hb' H', R δ' d → Same Hb Hb' → At K A Hb' H' σ' δ' → Rp K Hb' v d → Dn.rt v H') → t Dn σ H
section
variable {K : PySem.W.Frag} {δ δ' : DS} {N N' : DS → Prop} {R : DS → D → Prop} {te ta tb : TE} {t u : TS} {c : TT} {d a b e : D}
theorem sd_mono (h : SD K t δ N R) (hn : ∀ δ, N δ → N' δ) : SD K t δ N' R := fun A σ Hb H q Dn kn kr => h A σ Hb H q Dn (fun δ' σ' Hb' H' z => kn δ' σ' Hb' H' (hn _ z)) kr
theorem sd_next (h : N δ) : SD K tNext δ N R := fun A σ Hb H q Dn kn kr => kn δ σ Hb H h (Same.refl _) q
theorem sd_ret (h : RD K te δ d) (r : R δ d) : SD K (tRet te) δ N R := fun A σ Hb H q Dn kn kr =>
  h A σ Hb H q _ fun v Hb1 H1 g1 r1 => kr δ d v σ Hb1 H1 r g1.b (q.grow g1) r1
theorem sd_retN (r : R δ .non) : SD K tRetN δ N R := fun A σ Hb H q Dn kn kr => kr δ .non .non σ Hb H r (Same.refl _) q .non
theorem sd_seq (h : SD K t δ N' R) (h2 : ∀ δ', N' δ' → SD K u δ' N R) : SD K (tSeq t u) δ N R := fun A σ Hb H q Dn kn kr =>
  h A σ Hb H q _ (fun δ1 σ1 Hb1 H1 n1 e1 q1 => h2 δ1 n1 A σ1 Hb1 H1 q1 Dn (fun δ' σ' Hb' H' n e q => kn δ' σ' Hb' H' n (e1.trans e) q) (fun δ' d v σ' Hb' H' r e q p => kr δ' d v σ' Hb' H' r (e1.trans e) q p)) kr
theorem sd_asgG {g : TG} {is : List Nat} (h : RD K te δ d) (hg : GD K g is d δ δ') (n : N δ') : SD K (tAsg te g) δ N R := fun A σ Hb H q Dn kn kr =>
  h A σ Hb H q _ fun v Hb1 H1 g1 r1 => hg A σ Hb1 H1 v (q.grow g1) r1 _ fun σ' q' _ => kn δ' σ' Hb1 H1 n g1.b q'
theorem sd_asg {i : Nat} (h : RD K te δ d) (n : N (δ.set i (.dat d))) : SD K (tAsg te (gName i)) δ N R := sd_asgG h gd_name n
/-- name = e, then the rest -/
theorem sq_asg {i : Nat} (h : RD K te δ d) (k : SD K u (δ.set i (.dat d)) N R) : SD K (tSeq (tAsg te (gName i)) u) δ N R := sd_seq (N' := fun δ' => δ' = δ.set i (.dat d)) (sd_asg h rfl) fun _ e => e ▸ k
theorem sq_asgG {g : TG} {is : List Nat} (h : RD K te δ d) (hg : GD K g is d δ δ') (k : SD K u δ' N R) : SD K (tSeq (tAsg te g) u) δ N R := sd_seq (N' := fun δ1 => δ1 = δ') (sd_asgG h hg rfl) fun _ e => e ▸ k
theorem sd_par {i j : Nat} {ta : TA} (h : RA K ta δ [a, b]) (n : N ((δ.set i (.dat a)).set j (.dat b))) : SD K (tPar i j ta) δ N R := fun A σ Hb H q Dn kn kr =>
  h A σ Hb H q _ fun vs Hb1 H1 g1 r1 => by
    obtain ⟨v, w, rfl, rv, rw'⟩ := r1.two_inv
    exact ⟨v, w, rfl, kn _ _ Hb1 H1 n g1.b (((q.grow g1).set rv).set rw')⟩
theorem sq_par {i j : Nat} {ta : TA} (h : RA K ta δ [a, b]) (k : SD K u ((δ.set i (.dat a)).set j (.dat b)) N R) : SD K (tSeq (tPar i j ta) u) δ N R := sd_seq (N' := fun δ1 => δ1 = (δ.set i (.dat a)).set j (.dat b)) (sd_par h rfl) fun _ e => e ▸ k
theorem sd_if {x : Bool} (h : RT K c δ x) (h1 : x = true → SD K t δ N R) (h2 : x = false → SD K u δ N R) : SD K (tIfS c t u) δ N R := fun A σ Hb H q Dn kn kr =>
  h A σ Hb H q _ fun Hb1 H1 g1 => by
    cases x with
    | true => exact h1 rfl A σ Hb1 H1 (q.grow g1) Dn (fun δ' σ' Hb' H' n e q => kn δ' σ' Hb' H' n (g1.b.trans e) q) fun δ' d v σ' Hb' H' r e q p => kr δ' d v σ' Hb' H' r (g1.b.trans e) q p
    | false => exact h2 rfl A σ Hb1 H1 (q.grow g1) Dn (fun δ' σ' Hb' H' n e q => kn δ' σ' Hb' H' n (g1.b.trans e) q) fun δ' d v σ' Hb' H' r e q p => kr δ' d v σ' Hb' H' r (g1.b.trans e) q p
/-- an if that is not taken, or that leaves: then the rest -/
theorem sq_if {tz : TS} {x : Bool} (h : RT K c δ x) (h1 : x = true → SD K t δ (fun _ => False) R) (h2 : x = false → SD K tz δ N R) : SD K (tSeq (tIfS c t tNext) tz) δ N R :=
  sd_seq (N' := fun δ' => x = false ∧ δ' = δ) (sd_if h (fun e => sd_mono (h1 e) fun _ z => z.elim) fun e => sd_next ⟨e, rfl⟩) fun _ z => z.2 ▸ h2 z.1
theorem sq_no {tz : TS} (h : RT K c δ false) (h2 : SD K tz δ N R) : SD K (tSeq (tIfS c t tNext) tz) δ N R := sq_if h (fun z => nomatch z) fun _ => h2
theorem sq_drop (h : RD K te δ d) (k : SD K u δ N R) : SD K (tSeq (tDrop te) u) δ N R := fun A σ Hb H q Dn kn kr =>
  h A σ Hb H q _ fun v Hb1 H1 g1 r1 => k A σ Hb1 H1 (q.grow g1) Dn (fun δ' σ' Hb' H' n e q => kn δ' σ' Hb' H' n (g1.b.trans e) q) fun δ' d v σ' Hb' H' r e q p => kr δ' d v σ' Hb' H' r (g1.b.trans e) q p
theorem sd_drop (h : RD K te δ d) (n : N δ) : SD K (tDrop te) δ N R := fun A σ Hb H q Dn kn kr =>
  h A σ Hb H q _ fun v Hb1 H1 g1 r1 => kn δ σ Hb1 H1 n g1.b (q.grow g1)
/-- name = [] -/
theorem sd_newL {i : Nat} (n : ∀ p, N (δ.set i (.ownL p []))) : SD K (tAsg (tLst tNil) (gName i)) δ N R := fun A σ Hb H q Dn kn kr =>
  ⟨Nat.zero_le _, fun p hp => kn _ _ Hb _ (n p) (Same.refl _) (q.newL hp)⟩
theorem sq_newL {i : Nat} (k : ∀ p, SD K u (δ.set i (.ownL p [])) N R) : SD K (tSeq (tAsg (tLst tNil) (gName i)) u) δ N R :=
  sd_seq (N' := fun δ' => ∃ p, δ' = δ.set i (.ownL p [])) (sd_newL fun p => ⟨p, rfl⟩) fun _ ⟨p, e⟩ => e ▸ k p
/-- name = {} -/
theorem sd_newD {i : Nat} (n : ∀ p, N (δ.set i (.ownD p []))) : SD K (tAsg tDNewK (gName i)) δ N R := fun A σ Hb H q Dn kn kr =>
  fun p hp => kn _ _ Hb _ (n p) (Same.refl _) (q.newD hp)
theorem sq_newD {i : Nat} (k : ∀ p, SD K u (δ.set i (.ownD p [])) N R) : SD K (tSeq (tAsg tDNewK (gName i)) u) δ N R :=
  sd_seq (N' := fun δ' => ∃ p, δ' = δ.set i (.ownD p [])) (sd_newD fun p => ⟨p, rfl⟩) fun _ ⟨p, e⟩ => e ▸ k p
/-- found, known = [], {} -/
theorem sd_newLD {i j : Nat} (hij : i ≠ j) (n : ∀ p q, N ((δ.set i (.ownL p [])).set j (.ownD q []))) : SD K (tPar i j (tCons (tLst tNil) (tCons tDNewK tNil))) δ N R := fun A σ Hb H h Dn kn kr =>
  ⟨Nat.zero_le _, fun p hp => fun p2 hp2 => ⟨_, _, rfl, by
    have q1 := h.newL (i := i) hp
    have q2 := q1.newD (i := j) hp2
    exact kn _ _ Hb _ (n p p2) (Same.refl _) q2⟩⟩
/-- name.append(e) -/
theorem sd_app {i : Nat} {p : Addr} {ds : List D} (hi : δ[i]? = some (.ownL p ds)) (h : RD K te δ d) (hz : ds.length < 100000) (n : N (δ.set i (.ownL p (ds ++ [d])))) : SD K (tDrop (tBM K "list" rAppend (tVar i) (tCons te tNil))) δ N R := fun A σ Hb H q Dn kn kr => by
  obtain ⟨o, h1, h2, h3, h4, xs, h5, h6⟩ := q.sl i _ hi
  subst h2
  refine ⟨_, h1, .inl ⟨rfl, _, SqL.of h5⟩, ?_⟩
  refine h A σ Hb H q _ fun v Hb1 H1 g1 r1 => ?_
  refine ⟨p, xs, v, rfl, rfl, g1.h _ _ h5, by rw [h6.len]; exact szl5 hz, ?_⟩
  refine kn _ σ Hb1 _ n g1.b ((q.grow g1).mut hi rfl rfl h1 ?_)
  exact ⟨rfl, g1.o p h3 (by rw [h5]; simp), h4, _, upd_same, (h6.ext g1.b).app (.one r1)⟩
theorem sq_app {i : Nat} {p : Addr} {ds : List D} (hi : δ[i]? = some (.ownL p ds)) (h : RD K te δ d) (hz : ds.length < 100000) (k : SD K u (δ.set i (.ownL p (ds ++ [d]))) N R) : SD K (tSeq (tDrop (tBM K "list" rAppend (tVar i) (tCons te tNil))) u) δ N R :=
  sd_seq (N' := fun δ' => δ' = δ.set i (.ownL p (ds ++ [d]))) (sd_app hi h hz rfl) fun _ e => e ▸ k
/-- name += e (a list) -/
theorem sd_ext {i : Nat} {p : Addr} {ds es : List D} (hi : δ[i]? = some (.ownL p ds)) (h : RD K te δ (.lst es)) (hz : ds.length + es.length ≤ 100000) (n : N (δ.set i (.ownL p (ds ++ es)))) : SD K (tAug i te rExt2) δ N R := fun A σ Hb H q Dn kn kr => by
  obtain ⟨o, h1, h2, h3, h4, xs, h5, h6⟩ := q.sl i _ hi
  subst h2
  refine ⟨_, h1, h A σ Hb H q _ fun v Hb1 H1 g1 r1 => ?_⟩
  cases r1 with
  | @lst b ys _ hy r =>
    refine ⟨p, b, xs, ys, rfl, rfl, g1.h _ _ h5, g1.s _ _ hy, by rw [h6.len, r.len]; exact sz5 hz, ?_⟩
    have e : σ.set i (some (.ref p)) = σ := by
      apply List.ext_getElem?
      intro j
      by_cases z : i = j
      · subst z
        rw [h1, List.getElem?_set_self (List.getElem?_eq_some_iff.mp h1).1]
      · rw [List.getElem?_set_ne z]
    show Dn.nx (σ.set i (some (.ref p))) _
    rw [e]
    refine kn _ σ Hb1 _ n g1.b ((q.grow g1).mut hi rfl rfl h1 ?_)
    exact ⟨rfl, g1.o p h3 (by rw [h5]; simp), h4, _, upd_same, (h6.ext g1.b).app r⟩
/-- what a slot owns becomes data -/
theorem sd_frzL {i : Nat} {p : Addr} {ds : List D} (hi : δ[i]? = some (.ownL p ds)) (k : SD K t (δ.set i (.dat (.lst ds))) N R) : SD K t δ N R := fun A σ Hb H q Dn kn kr => by
  obtain ⟨o, h1, h2, h3, h4, xs, h5, h6⟩ := q.sl i _ hi
  subst h2
  obtain ⟨e0, q'⟩ := q.freeze (o := .lst xs) (d := .lst ds) hi rfl h5 h1 (.lst upd_same (h6.ext (same_new h3)))
  exact k A σ _ H q' Dn (fun δ' σ' Hb' H' n e q => kn δ' σ' Hb' H' n (e0.trans e) q) fun δ' d v σ' Hb' H' r e q p => kr δ' d v σ' Hb' H' r (e0.trans e) q p
theorem sd_frzD {i : Nat} {p : Addr} {ds : List (Key × D)} (hi : δ[i]? = some (.ownD p ds)) (k : SD K t (δ.set i (.dat (.dic ds))) N R) : SD K t δ N R := fun A σ Hb H q Dn kn kr => by
  obtain ⟨o, h1, h2, h3, h4, xs, h5, h6⟩ := q.sl i _ hi
  subst h2
  obtain ⟨e0, q'⟩ := q.freeze (o := .dK xs) (d := .dic ds) hi rfl h5 h1 (.dic upd_same (h6.ext (same_new h3)))
  exact k A σ _ H q' Dn (fun δ' σ' Hb' H' n e q => kn δ' σ' Hb' H' n (e0.trans e) q) fun δ' d v σ' Hb' H' r e q p => kr δ' d v σ' Hb' H' r (e0.trans e) q p
/-- slots forgotten -/
theorem sd_for {wi : TI} {g : TG} {tb : TS} {ds : List D} (hw : WI K wi δ ds) (I : Nat → DS → Prop) (h0 : I 0 δ)
    (hs : ∀ (i : Nat) (d : D) (δ1 : DS), ds[i]? = some d → I i δ1 → ∃ is δ2, GD K g is d δ1 δ2 ∧ SD K tb δ2 (I (i + 1)) R) (hd : ∀ δ1, I ds.length δ1 → N δ1) : SD K (tFor wi g tb) δ N R := fun A σ Hb H q Dn kn kr =>
  hw A σ Hb H q _ fun J Hb1 H1 g1 wk => by
    refine ⟨fun i m σ' H' => m = ds.length - i ∧ i ≤ ds.length ∧ ∃ δ1 Hb', Same Hb1 Hb' ∧ At K A Hb' H' σ' δ1 ∧ I i δ1, ⟨ds.length, by simp, Nat.zero_le _, δ, Hb1, Same.refl _, q.grow g1, h0⟩, ?_⟩
    rintro i m σ' H' ⟨rfl, hi, δ1, Hb', e1, q1, i1⟩
    obtain ⟨stop, step⟩ := wk Hb' H' e1 q1.gr.s
    by_cases hlt : i < ds.length
    · obtain ⟨go, yld⟩ := step i ds[i] (List.getElem?_eq_getElem hlt)
      refine .inr ⟨go, fun σ2 H2 => i + 1 ≤ ds.length ∧ ∃ δ1 Hb', Same Hb1 Hb' ∧ At K A Hb' H2 σ2 δ1 ∧ I (i + 1) δ1, fun σ2 H2 z => ⟨ds.length - (i + 1), by omega, rfl, z⟩, fun x H2 hy => ?_⟩
      obtain ⟨Hb2, g2, rx⟩ := yld x H2 hy
      obtain ⟨is, δ2, G, B⟩ := hs i ds[i] δ1 (List.getElem?_eq_getElem hlt) i1
      refine G A σ' Hb2 H2 x (q1.grow g2) rx _ fun σ2 q2 _ => ?_
      refine B A σ2 Hb2 H2 q2 _ (fun δ3 σ3 Hb3 H3 i3 e3 q3 => ⟨hlt, δ3, Hb3, (e1.trans g2.b).trans e3, q3, i3⟩) fun δ3 d v σ3 Hb3 H3 r3 e3 q3 p3 => ?_
      exact kr δ3 d v σ3 Hb3 H3 r3 (((g1.b.trans e1).trans g2.b).trans e3) q3 p3
    · have e : i = ds.length := by omega
      subst e
      exact .inl ⟨stop, kn δ1 σ' Hb' H' (hd δ1 i1) (g1.b.trans e1) q1⟩
theorem sq_for {wi : TI} {g : TG} {tb : TS} {ds : List D} (hw : WI K wi δ ds) (I : Nat → DS → Prop) (h0 : I 0 δ)
    (hs : ∀ (i : Nat) (d : D) (δ1 : DS), ds[i]? = some d → I i δ1 → ∃ is δ2, GD K g is d δ1 δ2 ∧ SD K tb δ2 (I (i + 1)) R) (hd : ∀ δ1, I ds.length δ1 → SD K u δ1 N R) : SD K (tSeq (tFor wi g tb) u) δ N R :=
  sd_seq (N' := I ds.length) (sd_for hw I h0 hs fun _ z => z) hd
theorem sd_while {tb : TS} (I : Nat → DS → Prop) (m0 : Nat) (h0 : I m0 δ)
    (hs : ∀ (m : Nat) (δ1 : DS), I m δ1 → ∃ x, RT K c δ1 x ∧ (x = true → SD K tb δ1 (fun δ2 => ∃ m', m' < m ∧ I m' δ2) R) ∧ (x = false → N δ1)) : SD K (tWhile c tb) δ N R := fun A σ Hb H q Dn kn kr => by
  refine ⟨fun m σ' H' => ∃ δ1 Hb', Same Hb Hb' ∧ At K A Hb' H' σ' δ1 ∧ I m δ1, ⟨m0, δ, Hb, Same.refl _, q, h0⟩, ?_⟩
  rintro m σ' H' ⟨δ1, Hb', e1, q1, i1⟩
  obtain ⟨x, T, B1, B2⟩ := hs m δ1 i1
  refine T A σ' Hb' H' q1 _ fun Hb2 H2 g2 => ?_
  cases x with
  | true =>
    refine ⟨fun σ3 H3 => ∃ m', m' < m ∧ ∃ δ1 Hb', Same Hb Hb' ∧ At K A Hb' H3 σ3 δ1 ∧ I m' δ1, fun σ3 H3 z => z, ?_⟩
    refine B1 rfl A σ' Hb2 H2 (q1.grow g2) _ (fun δ3 σ3 Hb3 H3 ⟨m', hm, i3⟩ e3 q3 => ⟨m', hm, δ3, Hb3, (e1.trans g2.b).trans e3, q3, i3⟩) fun δ3 d v σ3 Hb3 H3 r3 e3 q3 p3 => kr δ3 d v σ3 Hb3 H3 r3 ((e1.trans g2.b).trans e3) q3 p3
  | false => exact kn δ1 σ' Hb2 H2 (B2 rfl) (e1.trans g2.b) (q1.grow g2)
theorem sq_while {tb : TS} (I : Nat → DS → Prop) (m0 : Nat) (h0 : I m0 δ)
    (hs : ∀ (m : Nat) (δ1 : DS), I m δ1 → ∃ x, RT K c δ1 x ∧ (x = true → SD K tb δ1 (fun δ2 => ∃ m', m' < m ∧ I m' δ2) R) ∧ (x = false → SD K u δ1 N R)) : SD K (tSeq (tWhile c tb) u) δ N R :=
  sd_seq (N' := fun δ1 => SD K u δ1 N R) (sd_while I m0 h0 hs) fun _ z => z
end

/-! ### promises over data -/
/-- a pure def: from data to data -/
def spF (K : PySem.W.Frag) (Pre : List D → D → Prop) : Sp := fun vs H Q _ => ∃ (Hb : Hp) (ds : List D) (d : D), Same Hb H ∧ RpA K Hb vs ds ∧ Pre ds d ∧ ∀ v Hb' H', Gr Hb H Hb' H' → Rp K Hb' v d → Q v H'
def dstart (N : List Str) (ds : List D) : DS := ds.map Sl.dat ++ List.replicate (N.length - ds.length) Sl.no
section
variable {P : Program} {w : World} {K : PySem.W.Frag} {mg : Str → Option Value} {base : Heap}
theorem At.start {N : List Str} {vs : List V} {ds : List D} {Hb H : Hp} (s : Same Hb H) (r : RpA K Hb vs ds) : At K (Hb, H) Hb H (start N vs) (dstart N ds) := by
  have hl := r.len
  refine ⟨.refl s, ?_, fun i x e => ?_, fun i j x y a e1 _ q1 _ => ?_⟩
  · unfold L2.start dstart
    simp only [List.length_append, List.length_map, List.length_replicate]
    omega
  · unfold dstart at e
    unfold L2.start
    by_cases h : i < ds.length
    · rw [List.getElem?_append_left (by rw [List.length_map]; exact h), List.getElem?_map, List.getElem?_eq_getElem h] at e
      cases e
      obtain ⟨v, hv, rv⟩ := r.get (List.getElem?_eq_getElem h)
      refine ⟨some v, ?_, v, rfl, rv⟩
      rw [List.getElem?_append_left (by rw [List.length_map, hl]; exact h), List.getElem?_map, hv]
      rfl
    · rw [List.getElem?_append_right (by rw [List.length_map]; omega)] at e
      have e2 := List.getElem?_eq_some_iff.mp e
      obtain ⟨h3, h4⟩ := e2
      rw [List.getElem_replicate] at h4
      subst h4
      rw [List.length_replicate, List.length_map] at h3
      refine ⟨none, ?_, trivial⟩
      rw [List.getElem?_append_right (by rw [List.length_map]; omega), List.getElem?_replicate, if_pos (by rw [List.length_map]; omega)]
  · unfold dstart at e1
    have hm := List.mem_of_getElem? e1
    rcases List.mem_append.mp hm with z | z
    · obtain ⟨d, _, rfl⟩ := List.mem_map.mp z
      cases q1
    · rw [List.eq_of_mem_replicate z] at q1
      cases q1
theorem fnD {x qual : Str} {st : Stmt} {f : Addr} {fd : FuncData} {N ps : List Str} {k : Nat} {Pre : List D → D → Prop} (F : Fun K x qual st f fd) (S : FnScope N ps (defScope st)) (hl : ∀ ds d, Pre ds d → ds.length = ps.length)
    (body : ∀ (cdv : Value) (A : Around) (outer : List Env) (s : Shared) (H : Hp) (E : XK), Room k (A.deeper (envOfC qual (defScope st) s.heap.objs.size f cdv)) →
      ∃ t, PSs (cxOf CX0 P w K mg base N qual (defScope st) f cdv A outer s H E).nox (defBody st) t ∧ ∀ ds d, Pre ds d → SD K t (dstart N ds) (fun _ => d = .non) (fun _ e => e = d)) : FnOk P w K mg base CX0 (k + 1) f fd ps (spF K Pre) := by
  refine F.ok S (fun vs H Q E h => ?_) (fun cdv A outer s H vs Q E hr h => ?_)
  · obtain ⟨Hb, ds, d, _, r, p, _⟩ := h
    rw [r.len]
    exact hl ds d p
  · obtain ⟨t, ht, hs⟩ := body cdv A outer s H E hr
    obtain ⟨Hb, ds, d, e, r, p, q⟩ := h
    refine ⟨t, ht, hs ds d p (Hb, H) _ Hb H (At.start e r) _ (fun δ' σ' Hb' H' n e' q' => ?_) fun δ' d' v σ' Hb' H' rr e' q' rv => ?_⟩
    · subst n
      exact q .non Hb' H' q'.gr .non
    · subst rr
      exact q v Hb' H' q'.gr rv
/-- the same for a def with defaults -/
theorem fnDD {x qual : Str} {st : Stmt} {dvs : List V} {f : Addr} {fd : FuncData} {N ps : List Str} {k : Nat} {Pre : List D → D → Prop}
    (l : ∃ (oc : Value) (od : Option Addr) (dV kV doc pm : Value) (an : Option Addr) (cdv ct : Value) (osl : Array (Option Value)), fd = PySem.W.fnOf x qual (defArgs st) (defBody st) (defScope st) dV kV doc pm an cdv ct ∧ K.lookup f = some ⟨oc, od, .func fd, osl⟩ ∧ PySem.W.codeIn K cdv qual = true)
    (S : FnScope N ps (defScope st)) (hl : ∀ ds d, Pre ds d → ds.length = ps.length)
    (body : ∀ (cdv : Value) (A : Around) (outer : List Env) (s : Shared) (H : Hp) (E : XK), Room k (A.deeper (envOfC qual (defScope st) s.heap.objs.size f cdv)) →
      ∃ t, PSs (cxOf CX0 P w K mg base N qual (defScope st) f cdv A outer s H E).nox (defBody st) t ∧ ∀ ds d, Pre ds d → SD K t (dstart N ds) (fun _ => d = .non) (fun _ e => e = d)) : FnOk P w K mg base CX0 (k + 1) f fd ps (spF K Pre) := by
  obtain ⟨oc, od, dV, kV, doc, pm, an, cdv, ct, osl, rfl, lk, hcd⟩ := l
  refine fn_of lk hcd S (fun vs H Q E h => ?_) fun A outer s H vs Q E hr h => ?_
  · obtain ⟨Hb, ds, d, _, r, p, _⟩ := h
    rw [r.len]
    exact hl ds d p
  · obtain ⟨t, ht, hs⟩ := body cdv A outer s H E hr
    obtain ⟨Hb, ds, d, e, r, p, q⟩ := h
    refine ⟨t, ht.nox, hs ds d p (Hb, H) _ Hb H (At.start e r) _ (fun δ' σ' Hb' H' n e' q' => ?_) fun δ' d' v σ' Hb' H' rr e' q' rv => ?_⟩
    · subst n
      exact q .non Hb' H' q'.gr .non
    · subst rr
      exact q v Hb' H' q'.gr rv
end
section
variable {K : PySem.W.Frag} {δ : DS} {t : TA} {ds : List D} {d : D} {Pre : List D → D → Prop} {E : XK}
theorem rd_call (h : RA K t δ ds) (p : Pre ds d) : RD K (tCall (spF K Pre) [] E t) δ d := fun A σ Hb H q Q k =>
  h A σ Hb H q _ fun vs Hb1 H1 g1 r1 => by
    show spF K Pre (vs ++ []) H1 Q E
    rw [List.append_nil]
    exact ⟨Hb1, ds, d, g1.s, r1, p, fun v Hb' H' g r => k v Hb' H' (g1.trans g) r⟩
theorem rd_meth {C : Addr} {m : Str} {ta : TE} {gs : List (Str × D)} (ho : RD K ta δ (.ins C gs)) (hm : gs.lookup m = none) (h : RA K t δ ds) (p : Pre (.ins C gs :: ds) d) : RD K (tMeth C m (spF K Pre) [] E ta t) δ d := fun A σ Hb H q Q k =>
  ho A σ Hb H q _ fun x Hb1 H1 g1 r1 => by
    cases r1 with
    | @ins a _ dx fs _ hx rf =>
      refine ⟨a, dx, fs, rfl, g1.s _ _ hx, rf.lookN hm, h A σ Hb1 H1 (q.grow g1) _ fun vs Hb2 H2 g2 r2 => ?_⟩
      show spF K Pre (V.ref a :: (vs ++ [])) H2 Q E
      rw [List.append_nil]
      exact ⟨Hb2, .ins C gs :: ds, d, g2.s, .cons (.ins (g2.b _ _ hx) (rf.ext g2.b)) r2, p, fun v Hb' H' g r => k v Hb' H' ((g1.trans g2).trans g) r⟩
theorem rd_fld {C : Addr} {f : Str} {ta : TE} {gs : List (Str × D)} (c : Cls K C) (n : NoAttr K C f) (ho : RD K ta δ (.ins C gs)) (hf : gs.lookup f = some d) : RD K (tFld K ta f) δ d := fun A σ Hb H q Q k =>
  ho A σ Hb H q _ fun x Hb1 H1 g1 r1 => by
    cases r1 with
    | @ins a _ dx fs _ hx rf =>
      obtain ⟨v, hv, rv⟩ := rf.look hf
      exact ⟨a, C, dx, fs, v, rfl, g1.s _ _ hx, c, n, hv, k v Hb1 H1 g1 rv⟩
/-- a field of the instance that a slot owns -/
theorem rd_fldO {i : Nat} {C a : Addr} {f : Str} {gs : List (Str × D)} (c : Cls K C) (n : NoAttr K C f) (hi : δ[i]? = some (.ownI a C gs)) (hf : gs.lookup f = some d) : RD K (tFld K (tVar i) f) δ d := fun A σ Hb H q Q k => by
  obtain ⟨o, h1, h2, h3, h4, dx, xs, h5, h6⟩ := q.sl i _ hi
  subst h2
  obtain ⟨v, hv, rv⟩ := h6.look hf
  exact ⟨_, h1, a, C, dx, xs, v, rfl, h5, c, n, hv, k v Hb H (.refl q.gr.s) rv⟩
end
section
variable {K : PySem.W.Frag} {δ : DS} {N : DS → Prop} {R : DS → D → Prop} {te : TE} {u : TS} {d : D}
/-- self.f = e -/
theorem sd_fld {i : Nat} {C a : Addr} {f : Str} {gs : List (Str × D)} (c : Cls K C) (na : NoAttr K C f) (hi : δ[i]? = some (.ownI a C gs)) (h : RD K te δ d) (hz : gs.length < 1000) (n : N (δ.set i (.ownI a C (putD f d gs)))) :
    SD K (sFld K (tVar i) te f) δ N R := fun A σ Hb H q Dn kn kr => by
  obtain ⟨o, h1, h2, h3, h4, dx, xs, h5, h6⟩ := q.sl i _ hi
  subst h2
  refine h A σ Hb H q _ fun v Hb1 H1 g1 r1 => ⟨_, h1, a, C, dx, xs, rfl, g1.h _ _ h5, c, na, by rw [h6.len]; exact hz, ?_⟩
  refine kn _ σ Hb1 _ n g1.b ((q.grow g1).mut hi rfl rfl h1 ?_)
  exact ⟨rfl, g1.o a h3 (by rw [h5]; simp), h4, dx, _, upd_same, (h6.ext g1.b).put r1⟩
theorem sq_fld {i : Nat} {C a : Addr} {f : Str} {gs : List (Str × D)} (c : Cls K C) (na : NoAttr K C f) (hi : δ[i]? = some (.ownI a C gs)) (h : RD K te δ d) (hz : gs.length < 1000) (k : SD K u (δ.set i (.ownI a C (putD f d gs))) N R) :
    SD K (tSeq (sFld K (tVar i) te f) u) δ N R := sd_seq (N' := fun δ' => δ' = δ.set i (.ownI a C (putD f d gs))) (sd_fld c na hi h hz rfl) fun _ e => e ▸ k
end

/-! ### instances made -/
def hideA (x : Addr) (H : Hp) : Hp := fun b => if b = x then none else H b
theorem hideA_ne {x b : Addr} {H : Hp} (h : b ≠ x) : hideA x H b = H b := by unfold hideA; rw [if_neg h]
theorem hideA_same {x : Addr} {H : Hp} : hideA x H x = none := by unfold hideA; rw [if_pos rfl]
/-- an __init__: from data to the fields that it stores -/
def spI (K : PySem.W.Frag) (C : Addr) (Pre : List D → List (Str × D) → Prop) : Sp := fun vs H Q _ => ∃ (Hb : Hp) (x dx : Addr) (us : List V) (ds : List D) (gs : List (Str × D)), vs = .ref x :: us ∧ H x = some (.ins C dx []) ∧ Hb x = none ∧ Same Hb H ∧ RpA K Hb us ds ∧ Pre ds gs ∧
  ∀ Hb' H' dx' fs, Gr Hb (hideA x H) Hb' H' → Hb' x = none → H' x = some (.ins C dx' fs) → RpF K Hb' fs gs → Q .non H'
def istart (x C : Addr) (N : List Str) (ds : List D) : DS := .ownI x C [] :: (ds.map Sl.dat ++ List.replicate (N.length - (ds.length + 1)) Sl.no)
section
variable {P : Program} {w : World} {K : PySem.W.Frag} {mg : Str → Option Value} {base : Heap}
theorem fnI {x qual : Str} {st : Stmt} {f C : Addr} {fd : FuncData} {N ps : List Str} {k : Nat} {Pre : List D → List (Str × D) → Prop} (F : Fun K x qual st f fd) (S : FnScope N ps (defScope st)) (hl : ∀ ds d, Pre ds d → ds.length + 1 = ps.length)
    (body : ∀ (cdv : Value) (A : Around) (outer : List Env) (s : Shared) (H : Hp) (E : XK), Room k (A.deeper (envOfC qual (defScope st) s.heap.objs.size f cdv)) →
      ∃ t, PSs (cxOf CX0 P w K mg base N qual (defScope st) f cdv A outer s H E).nox (defBody st) t ∧ ∀ (x : Addr) ds gs, Pre ds gs → SD K t (istart x C N ds) (fun δ' => δ'[0]? = some (.ownI x C gs)) (fun _ _ => False)) : FnOk P w K mg base CX0 (k + 1) f fd ps (spI K C Pre) := by
  refine F.ok S (fun vs H Q E h => ?_) (fun cdv A outer s H vs Q E hr h => ?_)
  · obtain ⟨Hb, x, dx, us, ds, gs, rfl, _, _, _, r, p, _⟩ := h
    rw [List.length_cons, r.len]
    exact hl ds gs p
  · obtain ⟨t, ht, hs⟩ := body cdv A outer s H E hr
    obtain ⟨Hb, x, dx, us, ds, gs, rfl, hx, hbx, e, r, p, q⟩ := h
    have a0 : At K (Hb, hideA x H) Hb H (start N (.ref x :: us)) (istart x C N ds) := by
      have hlen := r.len
      refine ⟨⟨Same.refl _, fun b u z => ?_, e, fun _ z _ => z⟩, ?_, fun i s' z => ?_, fun i j s1 s2 a e1 e2 q1 q2 => ?_⟩
      · have z' : hideA x H b = some u := z
        by_cases y : b = x
        · rw [y, hideA_same] at z'
          cases z'
        · rwa [hideA_ne y] at z'
      · unfold L2.start istart
        simp only [List.length_append, List.length_map, List.length_replicate, List.length_cons]
        omega
      · cases i with
        | zero =>
          have z' : some (Sl.ownI x C []) = some s' := z
          cases z'
          exact ⟨some (.ref x), rfl, rfl, hbx, hideA_same, dx, [], hx, .nil⟩
        | succ i =>
          have z' : (ds.map Sl.dat ++ List.replicate (N.length - (ds.length + 1)) Sl.no)[i]? = some s' := z
          show ∃ o, (us.map some ++ List.replicate (N.length - (us.length + 1)) none)[i]? = some o ∧ _
          by_cases h : i < ds.length
          · rw [List.getElem?_append_left (by rw [List.length_map]; exact h), List.getElem?_map, List.getElem?_eq_getElem h] at z'
            cases z'
            obtain ⟨v, hv, rv⟩ := r.get (List.getElem?_eq_getElem h)
            refine ⟨some v, ?_, v, rfl, rv⟩
            rw [List.getElem?_append_left (by rw [List.length_map, hlen]; exact h), List.getElem?_map, hv]
            rfl
          · rw [List.getElem?_append_right (by rw [List.length_map]; omega)] at z'
            obtain ⟨h3, h4⟩ := List.getElem?_eq_some_iff.mp z'
            rw [List.getElem_replicate] at h4
            subst h4
            rw [List.length_replicate, List.length_map] at h3
            refine ⟨none, ?_, trivial⟩
            rw [List.getElem?_append_right (by rw [List.length_map]; omega), List.getElem?_replicate, if_pos (by rw [List.length_map]; omega)]
      · have only : ∀ {i : Nat} {s : Sl}, (istart x C N ds)[i]? = some s → s.own = some a → i = 0 := fun {i s} z y => by
          cases i with
          | zero => rfl
          | succ i =>
            have z' : (ds.map Sl.dat ++ List.replicate (N.length - (ds.length + 1)) Sl.no)[i]? = some s := z
            rcases List.mem_append.mp (List.mem_of_getElem? z') with m | m
            · obtain ⟨d, _, rfl⟩ := List.mem_map.mp m
              cases y
            · rw [List.eq_of_mem_replicate m] at y
              cases y
        rw [only e1 q1, only e2 q2]
    refine ⟨t, ht, hs x ds gs p (Hb, hideA x H) _ Hb H a0 _ (fun δ' σ' Hb' H' n e' q' => ?_) fun _ _ _ _ _ _ z _ _ _ => z.elim⟩
    obtain ⟨o, h1, h2, h3, h4, dx', xs, h5, h6⟩ := q'.sl 0 _ n
    exact q Hb' H' dx' xs q'.gr h3 h5 h6
end
theorem rd_make {K : PySem.W.Frag} {δ : DS} {t : TA} {ds : List D} {C : Addr} {gs : List (Str × D)} {Pre : List D → List (Str × D) → Prop} {E : XK} (h : RA K t δ ds) (p : Pre ds gs) : RD K (tMake C (spI K C Pre) [] E t) δ (.ins C gs) := fun A σ Hb H q Q k =>
  h A σ Hb H q _ fun vs Hb1 H1 g1 r1 => fun x dx hx hdx hne => by
    show spI K C Pre (V.ref x :: (vs ++ [])) _ _ E
    rw [List.append_nil]
    have hbx : Hb1 x = none := g1.s.free hx
    have e0 : Same H1 (upd (upd H1 dx (.own x)) x (.ins C dx [])) := fun b u z => by
      rw [upd_ne (ne_of_none z hx), upd_ne (ne_of_none z hdx)]
      exact z
    refine ⟨Hb1, x, dx, vs, ds, gs, rfl, upd_same, hbx, g1.s.trans e0, r1, p, fun Hb' H' dx' fs g hb hh rf => ⟨rfl, ?_⟩⟩
    refine k _ (upd Hb' x (.ins C dx' fs)) H' (g1.trans ⟨g.b.trans (same_new hb), fun b u z => ?_, fun b u z => ?_, fun a z1 z2 => ?_⟩) (.ins upd_same (rf.ext (same_new hb)))
    · refine g.h b u ?_
      rw [hideA_ne (ne_of_none z hx)]
      exact e0 b u z
    · by_cases y : b = x
      · subst y
        rw [upd_same] at z
        cases z
        exact hh
      · rw [upd_ne y] at z
        exact g.s b u z
    · have y : a ≠ x := fun y => z2 (y ▸ hx)
      rw [upd_ne y]
      refine g.o a z1 ?_
      rw [hideA_ne y]
      cases w : H1 a with
      | none => exact absurd w z2
      | some u =>
        rw [e0 a u w]
        simp
end K17
namespace K17
open PySem L2 PySem.Spec PyProof.Rows

/-! ### t * n, for n = 0, 1 too -/
theorem tuple_mul1 (l : Addr) (items : Array Value) (n : Nat) (dd : Option Addr) (sl : Array (Option Value)) (u : Tok) :
    Meets (Builtin.«tuple.__mul__» ⟨[.ref l, .int 1 u], []⟩) (fun _ R s => s.heap.get? l = some { cls := .type "tuple", dict := dd, data := .seq items n, slots := sl } ∧ R (.ok (.ret (Value.ref l))) s) :=
  .of_wp fun prog w A R s h => by
    obtain ⟨hp, g, d, tk, os⟩ := s
    obtain ⟨hl, h⟩ := h
    have f1 := AutoSeq1.idx_int
    have c1 : (items.isEmpty || (1 : Int) == 1) = true := by rw [Bool.or_eq_true]; exact .inr rfl
    wp_walk using wpAny_loadPart' hl
    repeat (first
      | (refine wpAny_ite_true (by first | exact c1 | exact decide_eq_true c1) ?_; wp_walk using wpAny_loadPart' hl)
      | (refine wpAny_ite_false (by first | decide) ?_; wp_walk using wpAny_loadPart' hl))
    exact ⟨_, rfl, h⟩
theorem tuple_mul0 (l : Addr) (items : Array Value) (n : Nat) (dd : Option Addr) (sl : Array (Option Value)) (u : Tok) (hne : items.isEmpty = false) :
    Meets (Builtin.«tuple.__mul__» ⟨[.ref l, .int 0 u], []⟩) (fun _ R s => s.heap.get? l = some { cls := .type "tuple", dict := dd, data := .seq items n, slots := sl } ∧
      R (.ok (.ret (Value.ref s.heap.objs.size))) { s with heap := s.heap.push { cls := Value.type "tuple", data := Data.seq #[] }, toks := s.toks }) :=
  .of_wp fun prog w A R s h => by
    obtain ⟨hp, g, d, tk, os⟩ := s
    obtain ⟨hl, h⟩ := h
    have f1 := AutoSeq1.idx_int
    have c1 : (items.isEmpty || (0 : Int) == 1) = false := by rw [hne]; rfl
    have c2 : (decide ((0 : Int) ≤ 0) || items.isEmpty) = true := by rw [hne]; rfl
    wp_walk using wpAny_loadPart' hl
    repeat (first
      | (refine wpAny_ite_false (decide_eq_false (by rw [c1]; exact Bool.false_ne_true)) ?_; wp_walk using wpAny_loadPart' hl)
      | (refine wpAny_ite_true (by first | exact c2 | exact decide_eq_true c2) ?_; wp_walk using wpAny_loadPart' hl)
      | (refine wpAny_ite_false (by first | decide) ?_; wp_walk using wpAny_loadPart' hl))
    exact ⟨_, rfl, h⟩
def rRepA (K : PySem.W.Frag) : R2 := fun x y H Q => ∃ l k xs, x = .ref l ∧ y = .int k ∧ SqT K H l xs ∧ xs ≠ [] ∧ 0 ≤ k ∧ k ≤ 1000 ∧ xs.length ≤ 1000 ∧ (k = 1 → Q (.ref l) H) ∧ (k ≠ 1 → ∀ p, H p = none → Q (.ref p) (upd H p (.tup (List.replicate k.toNat xs).flatten)))
section
variable {X : Cx}
theorem op_repA : OpR X (binaryOp .Mult) (rRepA X.K) := by
  intro pins s σ H x y v u Q I rx ry h
  obtain ⟨l, k, xs, rfl, rfl, hT, hne, h1, h2, hz, q1, q2⟩ := h
  by_cases hk2 : 2 ≤ k
  · exact op_repT pins s σ H _ _ v u Q I rx ry ⟨l, k, xs, rfl, rfl, hT, hne, hk2, h2, hz, q2 (by omega)⟩
  cases rx
  obtain ⟨t, rfl⟩ := ry
  obtain ⟨its, r, ⟨⟨cls, dd, data, sl⟩, ho, hc, n, hd⟩, hs⟩ := I.tuple hT
  simp only at hc hd
  subst hc hd
  have hle : its.length = xs.length := r.length.symm
  have hn : its ≠ [] := fun e => hne (by
    rw [e] at hle
    exact List.eq_nil_of_length_eq_zero hle.symm)
  have hi : its.toArray.isEmpty = false := by
    cases its with
    | nil => exact absurd rfl hn
    | cons a b => rfl
  by_cases hk1 : k = 1
  · subst hk1
    exact wpAny_binaryOp_repeat_ref (T := "tuple") (U := "int") (by decide) ⟨_, ho, rfl⟩ (fun s' => typeIs_int s' 1 t) noFill_tuple_mul F.fills_int_mul F.slot_int_rmul repeat_tuple F.slot_int_index.lookup
      (call_meets F.slot_int_rmul (typeIs_int s 1 t) F.entry_int_rmul (F.args_int_rmul_2 _ _) (int_rmul_tuple 1 t l its.toArray n dd sl)
        ⟨ho, rfl, ⟨_, ho, rfl⟩, call_meets F.slot_tuple_mul ⟨_, ho, rfl⟩ F.entry_tuple_mul (F.args_tuple_mul_2 _ _) (tuple_mul1 l its.toArray n dd sl t) ⟨ho, .ref l, H, I, rfl, q1 rfl⟩⟩)
  · have hk0 : k = 0 := by omega
    subst hk0
    refine wpAny_binaryOp_repeat_ref (T := "tuple") (U := "int") (by decide) ⟨_, ho, rfl⟩ (fun s' => typeIs_int s' 0 t) noFill_tuple_mul F.fills_int_mul F.slot_int_rmul repeat_tuple F.slot_int_index.lookup
      (call_meets F.slot_int_rmul (typeIs_int s 0 t) F.entry_int_rmul (F.args_int_rmul_2 _ _) (int_rmul_tuple 0 t l its.toArray n dd sl)
        ⟨ho, rfl, ⟨_, ho, rfl⟩, call_meets F.slot_tuple_mul ⟨_, ho, rfl⟩ F.entry_tuple_mul (F.args_tuple_mul_2 _ _) (tuple_mul0 l its.toArray n dd sl t hi) ⟨ho, ?_⟩⟩)
    refine ⟨.ref s.heap.objs.size, _, I.laid (t' := s.toks) (o := .tup []) (fun b ob q => Heap.get?_push_of_some _ q) (Nat.le_refl _) ?_, rfl, q2 (by decide) _ (I.hok.fresh (Nat.le_refl _))⟩
    exact ⟨Nat.zero_le _, [], .nil, IsTup.new _ _⟩
end
theorem od_repA {K : PySem.W.Frag} {ds : List D} {k : Int} (hne : ds ≠ []) (h0 : 0 ≤ k) (h1 : k ≤ 1000) (hz : ds.length ≤ 1000) : OD K (rRepA K) (.tup ds) (.int k) (.tup (List.replicate k.toNat ds).flatten) := fun x y Hb H s rx ry Q q => by
  cases ry
  cases rx with
  | @tup a xs _ h r =>
    refine ⟨a, k, xs, rfl, rfl, SqT.of (s _ _ h), fun e => hne ?_, h0, h1, by rw [r.len]; exact hz, fun e => ?_, fun _ p hp => ?_⟩
    · subst e
      cases r
      rfl
    · subst e
      have e : (List.replicate (1 : Int).toNat ds).flatten = ds := by simp
      rw [e] at q
      exact q _ Hb H (.refl s) (.tup h r)
    · exact q _ (upd Hb p (.tup _)) _ (.new s hp) (.tup upd_same ((r.rep k.toNat).ext (Gr.new s hp).b))

/-! ### enumerate(t), t a tuple -/
set_option maxHeartbeats 1000000 in
theorem meets_enumerate_newB1 {v : Value} {o : Obj} {H : Heap → Prop} (B : Begins v o H) :
    Meets (Builtin.«enumerate.__new__» ⟨[.type "enumerate", v], []⟩) (fun _ R s => H s.heap ∧
      R (.ok (.ret (.ref (s.heap.push o).objs.size))) { s with heap := (s.heap.push o).push { cls := .type "enumerate", data := .fields #[.none, .bool false, .ref s.heap.objs.size, rawInt 0, .none, .none] } }) :=
  .of_wp fun prog w A R s h => by
    obtain ⟨hp, g, d, tk, os⟩ := s; obtain ⟨h1, h⟩ := h
    have hsub := sub_enumerate
    have q1 : ∀ {A' : Around} {E : Value → Shared → Prop} {Q : Value → Shared → Prop}, Q (.ref hp.objs.size) ⟨hp.push o, g, d, tk, os⟩ → wpAny (model prog w) A' (pyIter v) Q E ⟨hp, g, d, tk, os⟩ :=
      fun q => B.iter prog w _ _ ⟨hp, g, d, tk, os⟩ _ h1 q
    wp_walk using q1
    refine wpAny_stack_any fun st => wpAny_pure ?_
    split
    · rename_i c _ _ _ _ _
      cases (c == Value.type "enumerate")
      · wp_walk using q1
        exact ⟨_, rfl, h⟩
      · wp_walk using q1
        exact ⟨_, rfl, h⟩
    · wp_walk using q1
      exact ⟨_, rfl, h⟩
section
variable {prog : Program} {w : World} {A : Around} {E : Value → Shared → Prop} {s : Shared}
theorem enum_begins1 {v : Value} {o : Obj} {H : Heap → Prop} {Q : Value → Shared → Prop} (B : Begins v o H) (h1 : H s.heap)
    (h : ∀ h', IsEnum h' (s.heap.objs.size + 1) s.heap.objs.size 0 .none → h'.get? s.heap.objs.size = some o → h'.objs.size = s.heap.objs.size + 2 →
      (∀ b o, s.heap.get? b = some o → h'.get? b = some o) → Q (.ref (s.heap.objs.size + 1)) { s with heap := h' }) :
    wpAny (model prog w) A (call (.type "enumerate") [v]) Q E s := by
  refine callType_new F.called_enumerate (by decide) (F.typeCall_enumerate_1 _) (F.newCall_enumerate_1 _) (fun obj => F.args_object_init_2 obj _) F.entry_enumerate_new
    (meets_enumerate_newB1 B) ⟨h1, ?_⟩
  have hz : (s.heap.push o).objs.size = s.heap.objs.size + 1 := Heap.size_push ..
  show _ ∧ _
  rw [hz]
  have he : IsEnum ((s.heap.push o).push { cls := .type "enumerate", data := .fields #[.none, .bool false, .ref s.heap.objs.size, rawInt 0, .none, .none] }) (s.heap.objs.size + 1) s.heap.objs.size 0 .none := by
    have := Heap.get?_push_size (s.heap.push o) (o := { cls := .type "enumerate", data := .fields #[.none, .bool false, .ref s.heap.objs.size, rawInt 0, .none, .none] }) rfl
    rw [hz] at this; exact this
  refine ⟨⟨_, he, rfl⟩, h _ he (Heap.get?_push_of_some _ (Heap.get?_push_size _ B.free)) (by rw [Heap.size_push, hz]) fun b o x => Heap.get?_push_of_some _ (Heap.get?_push_of_some _ x)⟩
end
/-- the tuple at a, each item in a new pair -/
def IteT (K : PySem.W.Frag) (a : Addr) : It :=
  ⟨fun i H => ∃ (xs : List V) (x : V), SqT K H a xs ∧ xs[i]? = some x, fun i H v H' => ∃ T x, v = .ref T ∧ H T = none ∧ H' = upd H T (.tup [.int (i : Nat), x]) ∧ ∀ xs, SqT K H a xs → xs[i]? = some x, fun i H => ∃ xs : List V, SqT K H a xs ∧ xs.length ≤ i⟩
theorem turn_enumT {P : Program} {w : World} {K : PySem.W.Frag} {elts : List Expr} {kk : Nat} {tpos : Pos} (a e it : Addr) (hea : it ≠ a) (hea2 : e ≠ a) :
    Turn P w K (.Tuple elts kk tpos) (IteT K a) [e, it] e (fun i h => (∃ old, IsEnum h e it ((i : Nat) : Int) old) ∧ h.IsTupleIter it a i ∧ e ≠ it) where
  mem := by simp
  obj := fun i h st b hb => by
    obtain ⟨⟨old, he⟩, ⟨o, ho, hc, hd⟩, _⟩ := st
    have e' : b = e ∨ b = it := by simpa using hb
    rcases e' with z | z
    · rw [z]; exact ⟨_, he, fun v q => nomatch q⟩
    · rw [z]; exact ⟨o, ho, fun v q => by rw [hd] at q; cases q⟩
  keep := fun i h h' st k => let ⟨⟨old, he⟩, hi, hne⟩ := st; ⟨⟨old, k e (by simp) _ he⟩, hi.at fun o q => k it (by simp) o q, hne⟩
  item := by
    intro X hP hw hK hc i pins s σ H E I hf st hg
    subst hP hw hK
    obtain ⟨⟨old, he⟩, hit, hne⟩ := st
    obtain ⟨xs, x, hq, hx⟩ := hg
    obtain ⟨its, rv, p, hz⟩ := I.tuple hq
    obtain ⟨u, hu, ru⟩ := rv.get hx
    have hel : e < s.heap.objs.size := Heap.lt_size he
    have hil : it < s.heap.objs.size := by obtain ⟨_, q, _⟩ := hit; exact Heap.lt_size q
    have hlt : i < its.toArray.size := by
      rw [List.size_toArray]
      exact (List.getElem?_eq_some_iff.mp hu).1
    refine wpAny_pyNext_enum_itemD (n := its.toArray.size) (i := i) (P := fun i v => its.toArray[i]? = some v) (St := fun i h => h.IsTupleIter it a i ∧ h.IsTuple a its.toArray) (Draws.tuple (by exact I.ok.hd hc) it a (Ne.symm hea) its.toArray) he ⟨hit, p⟩ hlt hne (by simp [hne, hea2]) fun x' h' tk hP ho hst hT hsz hk => ?_
    have ex : x' = u := by
      have e1 : its[i]? = some x' := by simpa using hP
      rw [hu] at e1
      exact (Option.some.inj e1).symm
    subst ex
    have hit' := hst.1
    refine ⟨_, rfl, wpAny_letOwnedTupleGo_enum (s := { s with heap := h', toks := tk + 1 }) ho fun h'' he' sb => ?_⟩
    have hT2 : h''.get? s.heap.objs.size = some { cls := .type "tuple", data := .seq #[.int i tk, x'] } := (sb.2 _ (Nat.ne_of_gt hel)).trans hT
    have new : ObjOk X.prog X.w (upd H s.heap.objs.size (.tup [.int (i : Nat), x])) h'' s.heap.objs.size (.tup [.int (i : Nat), x]) :=
      ⟨by show 2 ≤ sizeLine; decide, [.int i tk, x'], .cons ⟨_, rfl⟩ (.cons ru .nil), ⟨_, hT2, rfl, _, rfl⟩⟩
    have I1 : Inv X pins σ (upd H s.heap.objs.size (.tup [.int (i : Nat), x])) { s with heap := h'', toks := tk + 1 } :=
      I.turnedNew (ch := [e, it]) (fun b ob hb q => (sb.2 b (fun z => hb (by simp [z]))).trans (hk b ob (fun z => hb (by simp [z])) (fun z => hb (by simp [z])) q)) hf (Nat.le_refl _) new
    refine ⟨.ref s.heap.objs.size, _, I1, rfl, ⟨_, x, rfl, I.hok.fresh (Nat.le_refl _), rfl, fun ys hy => by rw [I.tuple_inj hy hq]; exact hx⟩, ⟨⟨x', ?_⟩, hit'.at fun o q => (sb.2 it (Ne.symm hne)).trans q, hne⟩, fun b hb => ?_⟩
    · have e1 : ((i + 1 : Nat) : Int) = (i : Int) + 1 := by omega
      rw [e1]; exact he'
    · have hb' : b < s.heap.objs.size := by
        have e' : b = e ∨ b = it := by simpa using hb
        rcases e' with z | z
        · rw [z]; exact hel
        · rw [z]; exact hil
      rw [upd_ne (Nat.ne_of_lt hb')]
      exact (hf b hb).1
  done := by
    intro X hP hw hK hc i pins s σ H E I hf st hg
    subst hP hw hK
    obtain ⟨⟨old, he⟩, hit, hne⟩ := st
    obtain ⟨xs, hq, hx⟩ := hg
    obtain ⟨its, rv, p, hz⟩ := I.tuple hq
    obtain ⟨f0, f1, f2, f3, f4, f5⟩ := hf it (by simp)
    have hl := rv.length
    have hT : s.TypeIs (.ref e) "enumerate" := ⟨_, he, rfl⟩
    unfold pyNext
    refine wpAny_bind (wpAny_attempt (wpAny_callSpecial?_slot (name := Str.ofString "__next__") hT F.slot_enumerate_next
      (wpAny_call_entry F.slot_enumerate_next hT F.entry_enumerate_next ?_ (F.args_enumerate_next_1 _))))
    show wpAny _ _ (field (.ref e) 2 >>= _) _ _ _
    refine wpAny_bind (wpAny_field he rfl (x := .ref it) rfl ?_)
    refine wpAny_bind (wpAny_nextOf_tuple_end (by exact I.ok.hd hc) hit p (by simp; omega) fun h' x he' hx' => ?_)
    obtain ⟨o, ho, hcl⟩ := hx'
    refine wpAny_bind (wpAny_isInstance (T := "StopIteration") (b := true) ⟨o, ho, hcl⟩ isSubtype_stop ?_)
    exact wpAny_pure ⟨rfl, I.turned (t' := s.toks) (fun b o hb q => he' b o hb q) f0 f1 f3 f4 f5⟩
  self := fun A i s Q E st h => let ⟨⟨_, he⟩, _⟩ := st; wpAny_pyIter_enum he h
def iEnumT (K : PySem.W.Frag) (ta : TA) : TI := fun σ H R => ta σ H fun vs H1 => ∃ a xs, vs = [.ref a] ∧ SqT K H1 a xs ∧ R (IteT K a) H1
theorem pi_enumT {X : Cx} {e : Expr} {ta : TA} {p pos tpos : Pos} {elts : List Expr} {kk : Nat} (hg : Gl X "enumerate") (hm : X.mg "enumerate" = none) (ha : PA X [e] ta) (hs : starEach [e] X.env = [(false, eval e X.env)] := by rfl) :
    PI X (.Tuple elts kk tpos) (.Call (.Name "enumerate" p) [e] [] pos) (iEnumT X.K ta) := by
  refine ⟨fun pins s σ H R I h => ?_⟩
  refine Call_ (ld_blt I hg hm boot_enumerate (PyProof.Rows.callWith_type1 (thn (ha.run pos pins s σ H _ I h) fun us s1 ⟨vs, H1, I1, r1, q1⟩ => ?_) hs rfl))
  obtain ⟨a, xs, ex, hq, q⟩ := q1
  subst ex
  cases r1 with
  | cons r rr =>
    cases rr
    cases r
    obtain ⟨its, rv, p', hz⟩ := I1.tuple hq
    have hal : a < s1.heap.objs.size := p'.lt
    refine enum_begins1 (begins_tuple a its.toArray) p' fun h' he hob hsz hk => wpAny_pyIter_enum he ?_
    have I2 : Inv X pins σ H1 { s1 with heap := h' } := I1.kept (t' := s1.toks) hk
    refine ⟨s1.heap.objs.size + 1, [s1.heap.objs.size + 1, s1.heap.objs.size], _, _, H1, rfl, I2, turn_enumT a (s1.heap.objs.size + 1) s1.heap.objs.size (Nat.ne_of_gt hal) (Nat.ne_of_gt (Nat.lt_succ_of_lt hal)), ⟨⟨.none, he⟩, ⟨_, hob, rfl, rfl⟩, Nat.succ_ne_self _⟩, fun b hb => ?_, q⟩
    have e' : b = s1.heap.objs.size + 1 ∨ b = s1.heap.objs.size := by simpa using hb
    have hle : s1.heap.objs.size ≤ b := by
      rcases e' with z | z
      · rw [z]; exact Nat.le_add_right _ _
      · rw [z]; exact Nat.le_refl _
    exact I1.fpOk hle (I1.hok.fresh hle)
def enumD (ds : List D) : List D := (List.range ds.length).zipWith (fun i d => .tup [.int ((i : Nat) : Int), d]) ds
theorem enumD_get {ds : List D} {i : Nat} {d : D} (h : (enumD ds)[i]? = some d) : ∃ e, ds[i]? = some e ∧ d = .tup [.int (i : Nat), e] := by
  unfold enumD at h
  rw [List.getElem?_zipWith] at h
  cases he : ds[i]? with
  | none =>
    rw [he] at h
    cases z : (List.range ds.length)[i]? <;> rw [z] at h <;> cases h
  | some e =>
    have hi : i < ds.length := (List.getElem?_eq_some_iff.mp he).1
    rw [he, List.getElem?_range hi] at h
    cases h
    exact ⟨e, rfl, rfl⟩
theorem enumD_len (ds : List D) : (enumD ds).length = ds.length := by
  unfold enumD
  rw [List.length_zipWith, List.length_range]
  exact Nat.min_self _
theorem wi_enumT {K : PySem.W.Frag} {δ : DS} {ta : TA} {ds : List D} (h : RA K ta δ [.tup ds]) : WI K (iEnumT K ta) δ (enumD ds) := fun A σ Hb H q R k =>
  h A σ Hb H q _ fun vs Hb1 H1 g1 r1 => by
    obtain ⟨v, rfl, r⟩ := r1.one_inv
    cases r with
    | @tup a xs _ hx r =>
      refine ⟨a, xs, rfl, SqT.of (g1.s _ _ hx), k _ Hb1 H1 g1 fun Hb2 H2 e2 s2 => ?_⟩
      have qx : SqT K H2 a xs := SqT.of (s2 _ _ (e2 _ _ hx))
      refine ⟨⟨xs, qx, by rw [enumD_len, r.len]; exact Nat.le_refl _⟩, fun i d hd => ?_⟩
      obtain ⟨e, he, rfl⟩ := enumD_get hd
      obtain ⟨v1, hv1, rv1⟩ := r.get he
      refine ⟨⟨xs, v1, qx, hv1⟩, fun x H3 hz => ?_⟩
      obtain ⟨T, x1, rfl, hT, rfl, f1⟩ := hz
      have e1 := f1 xs qx
      rw [hv1] at e1
      cases e1
      exact ⟨upd Hb2 T (.tup [.int (i : Nat), v1]), .new s2 hT, .tup upd_same (.cons (.int _) (.one ((rv1.ext e2).ext (Gr.new s2 hT).b)))⟩
end K17
namespace K17
open PySem L2 PySem.Spec PyProof.Rows

/-! ### operators that the text's own class defines -/
/-- x op y, both instances of the class at C; sp: the own method's promise -/
def rOwn (C : Addr) (sp : Sp) : R2 := fun x y H Q => ∃ a dx fs b dy gs, x = .ref a ∧ y = .ref b ∧ H a = some (.ins C dx fs) ∧ H b = some (.ins C dy gs) ∧ sp [x, y] H Q E0
def rOwnIn (C : Addr) (sp : Sp) : R2 := fun x y H Q => ∃ b dy gs, y = .ref b ∧ H b = some (.ins C dy gs) ∧ sp [y, x] H (fun v H' => ∃ k, v = .bl k ∧ Q (.bl k) H') E0
def rOwnTru (C : Addr) (sp : Sp) : V → Hp → (Bool → Hp → Prop) → Prop := fun x H Q => ∃ a dx fs, x = .ref a ∧ H a = some (.ins C dx fs) ∧ sp [x] H (fun v H' => ∃ k, v = .bl k ∧ Q k H') E0
def rOwnNe (C : Addr) (sp : Sp) : R2 := fun x y H Q => ∃ a dx fs b dy gs, x = .ref a ∧ y = .ref b ∧ H a = some (.ins C dx fs) ∧ H b = some (.ins C dy gs) ∧ sp [x, y] H (fun v H' => ∃ k, v = .bl k ∧ Q (.bl (!k)) H') E0
section
variable {X : Cx} {k : Nat} {f C : Addr} {fd : FuncData} {ps : List Str} {sp : Sp}
theorem cmpBack_of {pins : List (Addr × Obj)} {σ : L2.St} {Q : VK} {v : Value} {s' : Shared} (h : EP X pins σ Q v s') : PySem.W.CmpBack (EP X pins σ Q) v s' := by
  obtain ⟨z, H', I', rz, q⟩ := id h
  cases z with
  | non => cases rz; exact h
  | bl b => cases rz; exact h
  | int i => obtain ⟨t, rfl⟩ := rz; exact h
  | str i => obtain ⟨t, rfl⟩ := rz; exact h
  | byt i => obtain ⟨t, rfl⟩ := rz; exact h
  | flt i => obtain ⟨t, rfl⟩ := rz; exact h
  | ref a => cases rz; exact h
  | ty n => cases rz; exact h
theorem op_own {op : Operator} (F : FnOk X.prog X.w X.K X.mg X.base CX0 k f fd ps sp) (hr : Room k X.A) (hb : Binds X.K fd ps []) (hc : PySem.W.selfFirst X.K C = true)
    (hs : PySem.W.findIn X.K (.ref C) (PySem.dunder op.info.2) = some (some (.ref f))) (hf : PySem.W.isFn X.K (.ref f) = true) : OpR X (binaryOp op) (rOwn C sp) := by
  intro pins s σ H x y v u Q I rx ry h
  obtain ⟨a, dx, fs, b, dy, gs, rfl, rfl, ha, hb', hsp⟩ := h
  cases rx
  cases ry
  obtain ⟨mA, J, _⟩ := ins_get I.hok ha
  obtain ⟨mB, J', _⟩ := ins_get I.hok hb'
  obtain ⟨od, J, _⟩ := J.look
  obtain ⟨od', J', _⟩ := J'.look
  obtain ⟨m, hF⟩ := I.fr
  refine PySem.W.binop_K hF I.ok.mod.kin J J'.type hc hs hf ?_
  exact thn (run_fn F hr hb .nil pass0 I (vs := [.ref a, .ref b]) (.cons rfl (.cons rfl .nil)) hsp) fun v s1 q => cmpBack_of q
theorem op_ownIn (F : FnOk X.prog X.w X.K X.mg X.base CX0 k f fd ps sp) (hr : Room k X.A) (hb : Binds X.K fd ps []) (hs : PySem.W.findIn X.K (.ref C) "__contains__" = some (some (.ref f))) (hf : PySem.W.isFn X.K (.ref f) = true) : OpR X (compareOp .In) (rOwnIn C sp) := by
  intro pins s σ H x y v u Q I rx ry h
  obtain ⟨b, dy, gs, rfl, hb', hsp⟩ := h
  cases ry
  obtain ⟨mB, J', _⟩ := ins_get I.hok hb'
  obtain ⟨od', J', _⟩ := J'.look
  obtain ⟨m, hF⟩ := I.fr
  refine PySem.W.in_K hF I.ok.mod.kin J' hs hf ?_
  refine thn (run_fn F hr hb .nil pass0 I (vs := [.ref b, x]) (.cons rfl (.cons rx .nil)) hsp) fun v s1 q => ?_
  obtain ⟨z, H', I', rz, kb, rfl, q⟩ := q
  cases rz
  exact wpAny_truthy_bool ⟨.bl kb, H', I', rfl, q⟩
theorem tru_own (F : FnOk X.prog X.w X.K X.mg X.base CX0 k f fd ps sp) (hr : Room k X.A) (hb : Binds X.K fd ps []) (hs : PySem.W.findIn X.K (.ref C) "__bool__" = some (some (.ref f))) (hf : PySem.W.isFn X.K (.ref f) = true) : TruR X (rOwnTru C sp) := by
  intro pins s σ H x v Q I rx h
  obtain ⟨a, dx, fs, rfl, ha, hsp⟩ := h
  cases rx
  obtain ⟨mA, J, _⟩ := ins_get I.hok ha
  obtain ⟨od, J, _⟩ := J.look
  obtain ⟨m, hF⟩ := I.fr
  refine PySem.W.truthy_K hF I.ok.mod.kin J hs hf ?_
  refine thn (run_fn F hr hb .nil pass0 I (vs := [.ref a]) (.cons rfl .nil) hsp) fun v s1 q => ?_
  obtain ⟨z, H', I', rz, kb, rfl, q⟩ := q
  cases rz
  exact ⟨H', I', q⟩
/-- not e, by truth -/
def tNotR (r : V → Hp → (Bool → Hp → Prop) → Prop) (ta : TE) : TE := fun σ H Q => ta σ H fun x H1 => r x H1 fun k H2 => Q (.bl (!k)) H2
theorem pe_notR {a : Expr} {ta : TE} {pos : Pos} {r : V → Hp → (Bool → Hp → Prop) → Prop} (ht : TruR X r) (ha : PE X a ta) : PE X (.UnaryOp .Not a pos) (tNotR r ta) := by
  refine ⟨fun pins s σ H Q I h => ?_⟩
  refine UnaryOp_ (thn (ha.run pins s σ H _ I h) fun v s1 ⟨x, H1, I1, r1, q1⟩ => ?_)
  refine not_of (thn (ht pins s1 σ H1 x v _ I1 r1 q1) fun b s2 ⟨H2, I2, q2⟩ => ?_)
  exact ⟨.bl (!b), H2, I2, rfl, q2⟩
end

/-! != by the own == -/
section
variable {prog : Program} {w : World} {A : Around} {E : Value → Shared → Prop} {s : Shared} {K : PySem.W.Frag} {x C L f : Addr} {h₀ : Heap} {m : Str → Option Value} {ox : Obj} {od : Option Obj} {b : Value}
open PySem.W Builtin
theorem check_ne {M : Model} {rest : List Value} {Q : Unit → Shared → Prop} (X : K.In s.heap) (I : InstAt s.heap x ox C od) (ho : subIn K (.ref C) (.type "object") = some true) (ha : argsOk "object.__ne__" ⟨.ref x :: rest, []⟩) (hq : Q () s) :
    wpAny M A (checkBuiltinCall "object.__ne__" ⟨.ref x :: rest, []⟩) Q E s := by
  simp only [checkBuiltinCall, F.cmpKind_ne, F.cmpSplit_ne]
  refine wpAny_bind ?_
  · unfold isInstance
    refine wpAny_bind (I.type.here ?_)
    refine (looks_subIn X ho).here ?_
    rw [if_neg (by decide)]
    cases hsig : Manifest.signature? "object.__ne__" with
    | none => exact wpAny_pure hq
    | some sig =>
      simp only [argsOk, hsig] at ha
      have h2 : Bind.checkArgs "object.__ne__" sig ⟨.ref x :: rest, []⟩ = pure () := ha
      show wpAny M A (Bind.checkArgs "object.__ne__" sig ⟨.ref x :: rest, []⟩) Q E _
      rw [h2]
      exact wpAny_pure hq
theorem objNe_K {Q : Fin → Shared → Prop} (X : K.In s.heap) (I : InstAt s.heap x ox C od) (hs : findIn K (.ref C) "__eq__" = some (some (.ref f))) (hf : isFn K (.ref f) = true) (hu : A.units < cLine)
    (hcall : wpAny (model prog w) A (call (.ref f) [.ref x, b]) (fun v s' => ∃ b, v = .bool b ∧ Q (.done (.ret (.bool (!b)))) s') E s) :
    wpAny (model prog w) A (Builtin.«object.__ne__» ⟨[.ref x, b], []⟩) Q E s := by
  unfold Builtin.«object.__ne__»
  refine wpAny_bind (m := slotArgs "__ne__" 1 ⟨[.ref x, b], []⟩) (wpAny_pure ?_)
  refine wpAny_bind (wpAny_cRoomFor hu ?_)
  refine wpAny_bind (m := callSpecialIfBound? (.ref x) (Str.ofString "__eq__") [b]) (ifBound_K X I hs hf (wpAny_mono hcall (fun r s' hr => ?_) fun _ _ e => e))
  obtain ⟨c, rfl, hq⟩ := hr
  exact wpAny_bind (m := truthy (.bool c)) (wpAny_truthy_bool (wpAny_pure hq))
theorem ne_K {Q : Value → Shared → Prop} (hu : A.units + 1 < cLine) (X : K.In s.heap) (I : InstAt s.heap x ox C od) (hb : Looks (model prog w) s.heap (typeOf b) (.ref C)) (hne : findIn K (.ref C) "__ne__" = some (some (.builtin "object.__ne__")))
    (ho : subIn K (.ref C) (.type "object") = some true) (hs : findIn K (.ref C) "__eq__" = some (some (.ref f))) (hf : isFn K (.ref f) = true)
    (hcall : wpAny (model prog w) A.in1 (call (.ref f) [.ref x, b]) (fun v s' => ∃ b, v = .bool b ∧ Q (.bool (!b)) s') E s) :
    wpAny (model prog w) A (richCompare .NotEq (.ref x) b) Q E s := by
  have one : wpAny (model prog w) A (tryCompare (.ref x) "__ne__" b) (fun r s' => ∃ v, r = some v ∧ Q v s') E s := by
    unfold tryCompare
    simp only [callSpecialIfBound?, bindSpecialIfBound?]
    refine wpAny_bind (wpAny_holding (wpAny_bind (wpAny_bind (wpAny_bind (I.type.here ((looks_findIn X hne).here ?_))))))
    simp only [F.cmp_object.ne.bind]
    have cl : wpAny (model prog w) A (call (.builtin "object.__ne__") [.ref x, b]) (fun v s' => ∃ c, v = .bool c ∧ Q v s') E s := by
      refine wpAny_call (codeAny_call_builtin F.cmp_object.ne.plain F.cmpEntry_ne (check_ne X I ho (F.cmpArgs_ne _ _) ?_))
      refine objNe_K X I hs hf (by exact hu) (wpAny_mono hcall (fun v s' hv => ?_) fun _ _ e => e)
      obtain ⟨c, rfl, hq⟩ := hv
      exact ⟨c, rfl, ⟨_, rfl, hq⟩⟩
    refine wpAny_bind (wpAny_askSetting (wpAny_ite ?_))
    have fin : wpAny (model prog w) A (call (.builtin "object.__ne__") ([.ref x] ++ [b]) >>= fun v => pure (some v)) (fun r s' => ∃ v, r = some v ∧ ∃ c, v = .bool c ∧ Q v s') E s :=
      wpAny_bind (wpAny_mono cl (fun v s' h' => wpAny_pure ⟨v, rfl, h'⟩) fun _ _ h' => h')
    split
    · refine wpAny_bind (wpAny_pure (wpAny_pure (wpAny_mono fin (fun r s' h => ?_) fun _ _ e => e)))
      obtain ⟨v, rfl, c, rfl, q⟩ := h
      exact wpAny_pure ⟨_, rfl, q⟩
    · refine wpAny_tryCatch (wpAny_bind (wpAny_pure (wpAny_pure (wpAny_mono fin (fun r s' h => ?_) fun _ _ e => e))))
      obtain ⟨v, rfl, c, rfl, q⟩ := h
      exact wpAny_pure ⟨_, rfl, q⟩
  unfold richCompare
  simp only [oneThing_ref]
  refine wpAny_holding (wpAny_bind (wpAny_cRoomFor (Nat.lt_of_succ_lt hu) ?_))
  refine wpAny_bind (I.type.here (wpAny_bind (hb.here ?_)))
  rw [cmpInfo_NotEq]
  dsimp only
  rw [show (Value.ref C != Value.ref C) = false from by simp]
  simp only [Bool.false_eq_true, if_false]
  refine wpAny_bind (wpAny_pure ?_)
  simp only [Bool.false_eq_true, if_false]
  refine wpAny_bind (wpAny_mono one (fun r s' h => ?_) fun _ _ e => e)
  obtain ⟨v, rfl, q⟩ := h
  exact wpAny_pure q
end
section
variable {X : Cx} {k : Nat} {f C : Addr} {fd : FuncData} {ps : List Str} {sp : Sp}
theorem op_ownNe (F : FnOk X.prog X.w X.K X.mg X.base CX0 k f fd ps sp) (hr : Room (k + 1) X.A) (hb : Binds X.K fd ps []) (hne : PySem.W.findIn X.K (.ref C) "__ne__" = some (some (.builtin "object.__ne__")))
    (ho : PySem.W.subIn X.K (.ref C) (.type "object") = some true) (hs : PySem.W.findIn X.K (.ref C) "__eq__" = some (some (.ref f))) (hf : PySem.W.isFn X.K (.ref f) = true) : OpR X (compareOp .NotEq) (rOwnNe C sp) := by
  intro pins s σ H x y v u Q I rx ry h
  obtain ⟨a, dx, fs, b, dy, gs, rfl, rfl, ha, hb', hsp⟩ := h
  cases rx
  cases ry
  obtain ⟨mA, J, _⟩ := ins_get I.hok ha
  obtain ⟨mB, J', _⟩ := ins_get I.hok hb'
  obtain ⟨od, J, _⟩ := J.look
  obtain ⟨od', J', _⟩ := J'.look
  show wpAny (model X.prog X.w) X.A (richCompare .NotEq (.ref a) (.ref b)) (EP X pins σ Q) X.xe s
  refine ne_K (hu_of hr) I.kIn J J'.type hne ho hs hf ?_
  have r2 : Vals [V.ref a, V.ref b] [Value.ref a, Value.ref b] := .cons rfl (.cons rfl .nil)
  have hl := F.len _ _ _ _ hsp
  refine wpAny_call (codeAny_mono (F.run X.A.in1 X.stack s H ⟨[.ref a, .ref b], []⟩ [.ref a, .ref b] [.ref a, .ref b] _ E0 hr.in1 I.env0.in1 (by
    have := hb s [.ref a, .ref b] I.kIn (by simpa using hl)
    simpa using this) r2 hsp) fun r s' hq => ?_)
  cases r with
  | error e => exact hq.elim
  | ok fl =>
    cases fl with
    | ret w =>
      obtain ⟨z, H', I', rz, kb, rfl, q⟩ := I.after hq
      cases rz
      exact ⟨kb, rfl, .bl (!kb), H', I', rfl, q⟩
    | next => exact False.elim hq
    | brk => exact False.elim hq
    | cont => exact False.elim hq
end
/-! over data -/
section
variable {K : PySem.W.Frag} {C : Addr} {Pre : List D → D → Prop} {gs gs' : List (Str × D)} {d : D} {x : Bool}
theorem od_own (p : Pre [.ins C gs, .ins C gs'] d) : OD K (rOwn C (spF K Pre)) (.ins C gs) (.ins C gs') d := fun x y Hb H s rx ry Q k => by
  cases rx with
  | @ins a _ dx fs _ ha r =>
    cases ry with
    | @ins b _ dy fs' _ hb r' =>
      exact ⟨a, dx, fs, b, dy, fs', rfl, rfl, s _ _ ha, s _ _ hb, Hb, _, d, s, .cons (.ins ha r) (.one (.ins hb r')), p, k⟩
theorem od_ownNe (p : Pre [.ins C gs, .ins C gs'] (.bl x)) : OD K (rOwnNe C (spF K Pre)) (.ins C gs) (.ins C gs') (.bl (!x)) := fun x' y Hb H s rx ry Q k => by
  cases rx with
  | @ins a _ dx fs _ ha r =>
    cases ry with
    | @ins b _ dy fs' _ hb r' =>
      refine ⟨a, dx, fs, b, dy, fs', rfl, rfl, s _ _ ha, s _ _ hb, Hb, _, .bl x, s, .cons (.ins ha r) (.one (.ins hb r')), p, fun v Hb' H' g rv => ?_⟩
      cases rv
      exact ⟨x, rfl, k _ Hb' H' g (.bl _)⟩
theorem od_ownIn {a : D} (p : Pre [.ins C gs, a] (.bl x)) : OD K (rOwnIn C (spF K Pre)) a (.ins C gs) (.bl x) := fun x' y Hb H s rx ry Q k => by
  have ry' := ry
  cases ry with
  | @ins b _ dy fs' _ hb r' =>
    refine ⟨b, dy, fs', rfl, s _ _ hb, Hb, _, .bl x, s, .cons ry' (.one rx), p, fun v Hb' H' g rv => ?_⟩
    cases rv
    exact ⟨x, rfl, k _ Hb' H' g (.bl _)⟩
theorem rd_notR {δ : DS} {ta : TE} (h : RD K ta δ (.ins C gs)) (p : Pre [.ins C gs] (.bl x)) : RD K (tNotR (rOwnTru C (spF K Pre)) ta) δ (.bl (!x)) := fun A σ Hb H q Q k =>
  h A σ Hb H q _ fun v Hb1 H1 g1 r1 => by
    have r1' := r1
    cases r1 with
    | @ins a _ dx fs _ ha r =>
      refine ⟨a, dx, fs, rfl, g1.s _ _ ha, Hb1, _, .bl x, g1.s, .one r1', p, fun v Hb' H' g rv => ?_⟩
      cases rv
      exact ⟨x, rfl, k _ Hb' H' (g1.trans g) (.bl _)⟩
end
end K17
namespace K17
open PySem L2 PySem.Spec PyProof.Rows HT

/-! ### t[::-1] -/
theorem filterMap_cong {α β : Type} {f g : α → Option β} : ∀ {l : List α}, (∀ x ∈ l, f x = g x) → l.filterMap f = l.filterMap g
  | [], _ => rfl
  | x :: l, h => by
    rw [List.filterMap_cons, List.filterMap_cons, h x (List.mem_cons_self ..), filterMap_cong fun y hy => h y (List.mem_cons_of_mem _ hy)]
theorem adjust_rev (n : Nat) : Builtin.Slice.sliceAdjust none none (-1) (n : Int) = ((n : Int) - 1, -1) := rfl
theorem places_rev (n : Nat) : Builtin.Slice.slicePlaces ((n : Int) - 1) (-1) (-1) = n := by
  unfold Builtin.Slice.slicePlaces
  rw [if_neg (by decide)]
  split
  · rw [show (-(-1) : Int) = 1 by decide, Int.ediv_one]
    omega
  · omega
theorem pick_rev {α : Type} (xs : Array α) : ((List.range xs.size).filterMap fun (k : Nat) => xs[((xs.size : Int) - 1 + (k : Int) * (-1)).toNat]?) = xs.toList.reverse := by
  have e : ∀ k ∈ List.range xs.size, xs[((xs.size : Int) - 1 + (k : Int) * (-1)).toNat]? = (fun k => xs.toList.reverse[k]?) k := fun k hk => by
    have hk' := List.mem_range.mp hk
    show _ = xs.toList.reverse[k]?
    rw [List.getElem?_reverse (by simpa using hk'), Array.getElem?_toList]
    congr 1
    rw [Array.length_toList]
    omega
  have h2 : (List.range xs.size).filterMap (fun (k : Nat) => xs[((xs.size : Int) - 1 + (k : Int) * (-1)).toNat]?) = (List.range xs.size).filterMap fun k => xs.toList.reverse[k]? :=
    filterMap_cong e
  rw [h2]
  have g : ∀ (l : List α), (List.range l.length).filterMap (fun k => l[k]?) = l := by
    intro l
    apply List.ext_getElem?
    intro i
    induction l generalizing i with
    | nil => simp
    | cons a l ih =>
      rw [List.length_cons, List.range_succ_eq_map, List.filterMap_cons]
      simp only [List.getElem?_cons_zero, List.filterMap_map]
      have : ((fun k => (a :: l)[k]?) ∘ Nat.succ) = fun k => l[k]? := by
        funext k
        simp
      rw [this]
      cases i with
      | zero => rfl
      | succ i =>
        rw [List.getElem?_cons_succ, List.getElem?_cons_succ]
        exact ih i
  have := g xs.toList.reverse
  rwa [List.length_reverse, Array.length_toList] at this
section
variable {prog : Program} {w : World} {A : Around} {E : Value → Shared → Prop} {s : Shared}
theorem sliceApplied_rev {sl : Addr} {t : Tok} {n : Nat} {Q : Int × Int × Nat → Shared → Prop} (hs : s.heap.IsSliceOf sl .none .none (.int (-1) t))
    (h : Q ((n : Int) - 1, -1, n) s) : wpAny (model prog w) A (Builtin.Slice.sliceApplied (.ref sl) (pure (n : Int))) Q E s := by
  obtain ⟨os, hos, hcs, hds⟩ := id hs
  unfold Builtin.Slice.sliceApplied Builtin.Slice.sliceFields
  refine wpAny_bind (wpAny_bind (wpAny_field hos hds (x := .none) rfl (wpAny_bind (wpAny_field hos hds (x := .none) rfl (wpAny_bind (wpAny_field hos hds (x := .int (-1) t) rfl (wpAny_pure ?_)))))))
  refine wpAny_bind (slicePart_int ?_)
  show wpAny _ _ (if ((-1 : Int) == 0) = true then _ else _) _ _ s
  rw [if_neg (by decide)]
  refine wpAny_bind (slicePart_none (wpAny_bind (slicePart_none (wpAny_bind (wpAny_pure ?_)))))
  show wpAny _ _ (match Builtin.Slice.sliceAdjust none none (-1) (n : Int) with | (lo, hi) => pure (lo, (-1 : Int), Builtin.Slice.slicePlaces lo hi (-1))) _ _ s
  rw [adjust_rev n]
  show wpAny _ _ (pure ((n : Int) - 1, (-1 : Int), Builtin.Slice.slicePlaces ((n : Int) - 1) (-1) (-1))) _ _ s
  rw [places_rev]
  exact wpAny_pure h
theorem getItem_tuple_rev {t sl : Addr} {items : Array Value} {tk : Tok} {Q : Value → Shared → Prop} (ht : IsTup s.heap t items) (hs : s.heap.IsSliceOf sl .none .none (.int (-1) tk))
    (h : Q (.ref s.heap.objs.size) { s with heap := s.heap.push { cls := .type "tuple", data := .seq items.toList.reverse.toArray } })
    (hsz : items.size ≤ sizeLine) : wpAny (model prog w) A (getItem (.ref t) (.ref sl)) Q E s := by
  have htake : sizeOk (.seq items.toList.reverse.toArray) := by
    show items.toList.reverse.toArray.size ≤ sizeLine
    rw [List.size_toArray, List.length_reverse, Array.length_toList]
    exact hsz
  obtain ⟨os, hos, hcs, hds⟩ := id hs
  have hTs : s.TypeIs (.ref sl) "slice" := ⟨os, hos, hcs⟩
  unfold getItem
  try with_reducible refine wpAny_holding ?_
  first | refine wpAny_bind (wpAny_pure ?_) | skip
  refine wpAny_bind (wpAny_sequenceKey ht.typeIs (by decide) ?_)
  refine wpAny_bind (wpAny_callSpecial?_slot (name := Str.ofString "__getitem__") ht.typeIs PyProof.Rows.slot_tuple_getitem
    (wpAny_call_entry PyProof.Rows.slot_tuple_getitem ht.typeIs entry_tuple_getitem ?_ (args_tuple_getitem _ _)))
  show wpAny _ _ (Builtin.Tuple.tupleItemsOf (.ref t) >>= _) _ _ s
  refine wpAny_bind (tupleItemsOf_ ht ?_)
  refine wpAny_bind (wpAny_typeOf hTs ?_)
  rw [if_pos (by decide)]
  refine wpAny_bind (sliceApplied_rev hs ?_)
  have hno : ¬ ((((items.size : Nat) : Int) - 1 == 0 && (-1 : Int) == 1 && items.size == items.size) = true) := by
    intro q
    rw [Bool.and_eq_true, Bool.and_eq_true] at q
    exact absurd q.1.2 (by decide)
  show wpAny _ _ (if (((items.size : Nat) : Int) - 1 == 0 && (-1 : Int) == 1 && items.size == items.size) = true then _ else _) _ _ s
  rw [if_neg hno, pick_rev]
  first
    | exact wpAny_bind (m := Builtin.Tuple.tupleExact _) (wpAny_newObj_type (wpAny_pure ⟨_, rfl, wpAny_pure h⟩) htake)
    | exact wpAny_bind (m := Builtin.Tuple.tupleExact _) (wpAny_newObj_type (wpAny_bind (wpAny_pure (wpAny_pure ⟨_, rfl, wpAny_pure h⟩))) htake)
    | exact wpAny_bind (wpAny_bind (m := Builtin.Tuple.tupleExact _) (wpAny_newObj_type (wpAny_pure (wpAny_pure ⟨_, rfl, wpAny_pure h⟩)) htake))
    | exact wpAny_bind (wpAny_bind (m := Builtin.Tuple.tupleExact _) (wpAny_newObj_type (wpAny_pure (wpAny_pure ⟨_, rfl, wpAny_pure h⟩)) htake))
end
def tRevT (K : PySem.W.Frag) (te : TE) : TE := fun σ H Q => te σ H fun x H1 => ∃ a xs, x = .ref a ∧ SqT K H1 a xs ∧ ∀ p, H1 p = none → Q (.ref p) (upd H1 p (.tup xs.reverse))
theorem pe_revT {X : Cx} {e : Expr} {te : TE} {k : Nat} {p1 p2 p3 pos : Pos} (he : PE X e te) : PE X (.Subscript e (.Slice none none (some (.UnaryOp .USub (.Constant (.int 1) k p1) p2)) p3) pos) (tRevT X.K te) := by
  refine ⟨fun pins s σ H Q I h => ?_⟩
  refine Subscript_ (thn (he.run pins s σ H _ I h) fun v s1 ⟨x, H1, I1, r1, q1⟩ => ?_)
  obtain ⟨a, xs, ex, hx, q⟩ := q1
  subst ex
  cases r1
  have hst : PO X (some (.UnaryOp .USub (.Constant (.int 1) k p1) p2)) (tPart (tUn (rU fun i => .int (-i)) (tC (.int 1)))) := po_some (pe_un un_neg pe_int)
  refine wpAny_Slice (thn (po_none.run pins s1 σ H1 (fun o H2 => o = none ∧ H2 = H1) I1 ⟨rfl, rfl⟩) fun vl s2 ⟨l, H2, I2, pl, el, e2⟩ => ?_)
  subst el e2
  refine thn (po_none.run pins s2 σ H2 (fun o H3 => o = none ∧ H3 = H2) I2 ⟨rfl, rfl⟩) fun vu s3 ⟨u, H3, I3, pu, eu, e3⟩ => ?_
  subst eu e3
  refine thn (hst.run pins s3 σ H3 (fun o H4 => o = some (-1) ∧ H4 = H3) I3 ⟨1, rfl, -1, rfl, rfl, rfl⟩) fun vs s4 ⟨o, H4, I4, ps, eo, e4⟩ => ?_
  subst eo e4
  have I5 : Inv X pins σ H4 { s4 with heap := s4.heap.push { cls := .type "slice", data := .fields #[vl, vu, vs] } } := I4.kept (t' := s4.toks) fun b ob q => Heap.get?_push_of_some _ q
  obtain ⟨its, r, ht, hz⟩ := I5.tuple hx
  have hlen := r.length
  cases pl
  cases pu
  obtain ⟨tk, rfl⟩ : ∃ tk, vs = .int (-1) tk := by
    cases ps
    exact ⟨_, rfl⟩
  show wpAny (model X.prog X.w) X.A (subscriptTail e (.Slice none none (some (.UnaryOp .USub (.Constant (.int 1) k p1) p2)) p3) (.ref a) (.ref s4.heap.objs.size)) (EP X pins σ Q) X.xe { s4 with heap := s4.heap.push { cls := .type "slice", data := .fields #[.none, .none, .int (-1) tk] } }
  refine tail_any (ops := [.ref a, .ref s4.heap.objs.size]) ht.typeIs (PyProof.Rows.slot_tuple_getitem.lookup) ?_ (by with_unfolding_all rfl)
  refine getItem_tuple_rev ht (Heap.IsSliceOf.new _ .none .none (.int (-1) tk)) ?_ (by rw [List.size_toArray]; omega)
  refine ⟨.ref _, _, I5.laid (t' := s4.toks) (o := .tup xs.reverse) (fun b ob q => Heap.get?_push_of_some _ q) (Nat.le_refl _) ?_, rfl, q _ (I5.hok.fresh (Nat.le_refl _))⟩
  refine ⟨by rw [List.length_reverse]; exact hz, its.reverse, r.reverse, ?_⟩
  exact IsTup.new _ _
theorem rd_revT {K : PySem.W.Frag} {δ : DS} {te : TE} {ds : List D} (h : RD K te δ (.tup ds)) : RD K (tRevT K te) δ (.tup ds.reverse) := fun A σ Hb H q Q k =>
  h A σ Hb H q _ fun v Hb1 H1 g1 r1 => by
    cases r1 with
    | @tup a xs _ hx r => exact ⟨a, xs, rfl, SqT.of (g1.s _ _ hx), fun p hp => k _ (upd Hb1 p (.tup xs.reverse)) _ (g1.trans (.new g1.s hp)) (.tup upd_same (r.rev.ext (Gr.new g1.s hp).b))⟩

/-! ### xs[a:b:c] of a list -/
def pickI {α : Type} (xs : List α) (lo hi st : Option Int) : List α := (sliceRange (sliceBounds lo hi st xs.length).1 (sliceBounds lo hi st xs.length).2.1 (sliceBounds lo hi st xs.length).2.2).filterMap (xs[·]?)
theorem filt_get {β : Type} (g : Nat → Option β) (idx : List Nat) : idx.filterMap g = idx.filterMap g := rfl
theorem Vals.pick {xs : List V} {us : List Value} (r : Vals xs us) : ∀ idx : List Nat, Vals (idx.filterMap (xs[·]?)) (idx.filterMap (us[·]?))
  | [] => .nil
  | i :: idx => by
    rw [List.filterMap_cons, List.filterMap_cons]
    cases h : xs[i]? with
    | none =>
      rw [r.none_of h]
      exact Vals.pick r idx
    | some x =>
      obtain ⟨u, hu, ru⟩ := r.get h
      rw [hu]
      exact .cons ru (Vals.pick r idx)
theorem RpA.pick {K : PySem.W.Frag} {H : Hp} {xs : List V} {ds : List D} (r : RpA K H xs ds) : ∀ idx : List Nat, RpA K H (idx.filterMap (xs[·]?)) (idx.filterMap (ds[·]?))
  | [] => .nil
  | i :: idx => by
    rw [List.filterMap_cons, List.filterMap_cons]
    cases h : ds[i]? with
    | none =>
      have : xs[i]? = none := by
        rw [List.getElem?_eq_none_iff] at h ⊢
        rw [r.len]
        exact h
      rw [this]
      exact RpA.pick r idx
    | some d =>
      obtain ⟨u, hu, ru⟩ := r.get h
      rw [hu]
      exact .cons ru (RpA.pick r idx)
theorem pickI_mem {α : Type} {xs : List α} {lo hi st : Option Int} {x : α} (h : x ∈ pickI xs lo hi st) : x ∈ xs := by
  obtain ⟨i, _, e⟩ := List.mem_filterMap.mp h
  exact List.mem_of_getElem? e
theorem sliceRange_le (lo hi : Option Int) (c : Int) (n : Nat) (hc : 0 < c) : (sliceRange (sliceBounds lo hi (some c) n).1 (sliceBounds lo hi (some c) n).2.1 (sliceBounds lo hi (some c) n).2.2).length ≤ n := by
  refine sliceRange_length_le _ _ _ n (fun _ => ?_) fun h => ?_
  · unfold sliceBounds
    simp only [Option.getD_some, hc, gt_iff_lt, if_true]
    constructor
    · cases lo with
      | none => exact Int.le_refl 0
      | some i => simp only []; omega
    · cases hi with
      | none => exact Int.le_refl _
      | some i => simp only []; omega
  · exact absurd hc h
theorem pickI_len {α : Type} (xs : List α) (lo hi : Option Int) (c : Int) (hc : 0 < c) : (pickI xs lo hi (some c)).length ≤ xs.length := by
  unfold pickI
  exact Nat.le_trans (List.length_filterMap_le _ _) (sliceRange_le lo hi c xs.length hc)
def tStepL (K : PySem.W.Frag) (te : TE) (tl th ts : TO) : TE := fun σ H Q => te σ H fun x H1 => tl σ H1 fun l H2 => th σ H2 fun u H3 => ts σ H3 fun o H4 => ∃ a xs c, x = .ref a ∧ o = some c ∧ 0 < c ∧ SqL K H4 a xs ∧ ∀ p, H4 p = none → Q (.ref p) (upd H4 p (.lst (pickI xs l u (some c))))
theorem pe_stepL {X : Cx} {e st : Expr} {lo hi : Option Expr} {te : TE} {tl th ts : TO} {p3 pos : Pos} (he : PE X e te) (hl : PO X lo tl) (hu : PO X hi th) (hst : PO X (some st) ts)
    (hsub : ∀ v sl, subscripted (.Slice lo hi (some st) p3) false v sl = operate [v, sl] (getItem v sl) := by intros; with_unfolding_all rfl) :
    PE X (.Subscript e (.Slice lo hi (some st) p3) pos) (tStepL X.K te tl th ts) := by
  refine ⟨fun pins s σ H Q I h => ?_⟩
  refine Subscript_ (thn (he.run pins s σ H _ I h) fun v s1 ⟨x, H1, I1, r1, q1⟩ => ?_)
  refine wpAny_Slice (thn (hl.run pins s1 σ H1 _ I1 q1) fun vl s2 ⟨l, H2, I2, pl, q2⟩ => ?_)
  refine thn (hu.run pins s2 σ H2 _ I2 q2) fun vu s3 ⟨u, H3, I3, pu, q3⟩ => ?_
  refine thn (hst.run pins s3 σ H3 _ I3 q3) fun vs s4 ⟨o, H4, I4, ps, q4⟩ => ?_
  obtain ⟨a, xs, c, rfl, rfl, hc, hx, q⟩ := q4
  cases r1
  have I5 : Inv X pins σ H4 { s4 with heap := s4.heap.push { cls := .type "slice", data := .fields #[vl, vu, vs] } } := I4.kept (t' := s4.toks) fun b ob q => Heap.get?_push_of_some _ q
  obtain ⟨its, r, ht, hz⟩ := I5.list hx
  have hlen := r.length
  show wpAny (model X.prog X.w) X.A (subscriptTail e (.Slice lo hi (some st) p3) (.ref a) (.ref s4.heap.objs.size)) (EP X pins σ Q) X.xe { s4 with heap := s4.heap.push { cls := .type "slice", data := .fields #[vl, vu, vs] } }
  refine tail_any (ops := [.ref a, .ref s4.heap.objs.size]) ht.isList.typeIs (PySem.slot_list_getitem.lookup) ?_ (hsub _ _)
  refine wpAny_getItem_list_slice ht.isList (Heap.IsSliceOf.new _ vl vu vs) pl pu ps (by intro z; cases z; omega) ?_ (by rw [List.size_toArray]; omega)
  refine ⟨.ref _, _, I5.laid (t' := s4.toks) (o := .lst (pickI xs l u (some c))) (fun b ob q => Heap.get?_push_of_some _ q) (Nat.le_refl _) ?_, rfl, q _ (I5.hok.fresh (Nat.le_refl _))⟩
  refine ⟨Nat.le_trans (pickI_len xs l u c hc) hz, pickI its l u (some c), 0, ?_, ?_⟩
  · unfold pickI
    rw [hlen]
    exact Vals.pick r _
  · have e : slicePick its.toArray l u (some c) = (pickI its l u (some c)).toArray := by
      unfold slicePick pickI
      rw [List.size_toArray]
      congr 1
      apply filterMap_cong
      intro i _
      exact List.getElem?_toArray
    rw [e]
    exact Heap.get?_push_size _ rfl
/-- slices over data -/
def RO (K : PySem.W.Frag) (to : TO) (δ : DS) (o : Option Int) : Prop :=
  ∀ (A : Hp × Hp) (σ : L2.St) (Hb H : Hp), At K A Hb H σ δ → ∀ Q : Option Int → Hp → Prop, (∀ Hb' H', Gr Hb H Hb' H' → Q o H') → to σ H Q
section
variable {K : PySem.W.Frag} {δ : DS} {te : TE} {tl th ts : TO} {l u : Option Int} {ds : List D}
theorem ro_none : RO K tNoPart δ none := fun A σ Hb H q Q k => k Hb H (.refl q.gr.s)
theorem ro_some {i : Int} (h : RD K te δ (.int i)) : RO K (tPart te) δ (some i) := fun A σ Hb H q Q k =>
  h A σ Hb H q _ fun v Hb1 H1 g1 r1 => by
    cases r1
    exact ⟨i, rfl, k Hb1 H1 g1⟩
theorem RpA.cut {H : Hp} {xs : List V} (r : RpA K H xs ds) (l u : Option Int) : RpA K H (cutV xs l u) ((ds.drop (HT.sIx ds.length 0 l)).take (HT.sIx ds.length ds.length u - HT.sIx ds.length 0 l)) := by
  unfold cutV
  rw [r.len]
  exact (r.drop _).take _
theorem rd_slL (h : RD K te δ (.lst ds)) (hl : RO K tl δ l) (hu : RO K th δ u) : RD K (tSl (rSlL K) te tl th) δ (.lst ((ds.drop (HT.sIx ds.length 0 l)).take (HT.sIx ds.length ds.length u - HT.sIx ds.length 0 l))) := fun A σ Hb H q Q k =>
  h A σ Hb H q _ fun v Hb1 H1 g1 r1 => hl A σ Hb1 H1 (q.grow g1) _ fun Hb2 H2 g2 => hu A σ Hb2 H2 ((q.grow g1).grow g2) _ fun Hb3 H3 g3 => by
    have r2 := (r1.ext g2.b).ext g3.b
    cases r2 with
    | @lst a xs _ hx r => exact ⟨a, xs, rfl, SqL.of (g3.s _ _ hx), fun p hp => k _ (upd Hb3 p (.lst (cutV xs l u))) _ (((g1.trans g2).trans g3).trans (.new g3.s hp)) (.lst upd_same ((r.cut l u).ext (Gr.new g3.s hp).b))⟩
theorem rd_slT (h : RD K te δ (.tup ds)) (hl : RO K tl δ l) (hu : RO K th δ u) : RD K (tSl (rSlA K) te tl th) δ (.tup ((ds.drop (HT.sIx ds.length 0 l)).take (HT.sIx ds.length ds.length u - HT.sIx ds.length 0 l))) := fun A σ Hb H q Q k =>
  h A σ Hb H q _ fun v Hb1 H1 g1 r1 => hl A σ Hb1 H1 (q.grow g1) _ fun Hb2 H2 g2 => hu A σ Hb2 H2 ((q.grow g1).grow g2) _ fun Hb3 H3 g3 => by
    have r2 := (r1.ext g2.b).ext g3.b
    cases r2 with
    | @tup a xs _ hx r =>
      refine ⟨a, xs, rfl, SqT.of (g3.s _ _ hx), fun e => ?_, fun _ p hp => k _ (upd Hb3 p (.tup (cutV xs l u))) _ (((g1.trans g2).trans g3).trans (.new g3.s hp)) (.tup upd_same ((r.cut l u).ext (Gr.new g3.s hp).b))⟩
      rw [r.len] at e
      rw [e.1, e.2, List.drop_zero, Nat.sub_zero, List.take_length] at k
      exact k _ Hb3 H3 ((g1.trans g2).trans g3) (.tup hx r)
theorem rd_stepL {c : Int} (h : RD K te δ (.lst ds)) (hl : RO K tl δ l) (hu : RO K th δ u) (hs : RO K ts δ (some c)) (hc : 0 < c) : RD K (tStepL K te tl th ts) δ (.lst (pickI ds l u (some c))) := fun A σ Hb H q Q k =>
  h A σ Hb H q _ fun v Hb1 H1 g1 r1 => hl A σ Hb1 H1 (q.grow g1) _ fun Hb2 H2 g2 => hu A σ Hb2 H2 ((q.grow g1).grow g2) _ fun Hb3 H3 g3 => hs A σ Hb3 H3 (((q.grow g1).grow g2).grow g3) _ fun Hb4 H4 g4 => by
    have r2 := ((r1.ext g2.b).ext g3.b).ext g4.b
    cases r2 with
    | @lst a xs _ hx r =>
      refine ⟨a, xs, c, rfl, rfl, hc, SqL.of (g4.s _ _ hx), fun p hp => k _ (upd Hb4 p (.lst (pickI xs l u (some c)))) _ ((((g1.trans g2).trans g3).trans g4).trans (.new g4.s hp)) (.lst upd_same (RpA.ext (Gr.new g4.s hp).b ?_))⟩
      unfold pickI
      rw [r.len]
      exact RpA.pick r _
end

/-! ### xs[i] op= e; o.f as a target -/
theorem get_list {X : Cx} : PGet X (rIxL X.K) := by
  intro pins s σ H o i ov iv Q I ro ri h
  obtain ⟨p, xs, i', v, rfl, rfl, hq, ha, q⟩ := h
  cases ro
  obtain ⟨t, rfl⟩ := ri
  obtain ⟨its, r, pl, hz⟩ := I.list hq
  obtain ⟨j, h1, h2, h3, h4, h5⟩ := atI_get ha
  obtain ⟨u, hu, ru⟩ := r.get h2
  have hl := r.length
  have hn := line63
  have fin : EP X pins σ Q u s := ⟨v, H, I, ru, q⟩
  by_cases h0 : 0 ≤ i'
  · have hj : i'.toNat = j := by
      rw [seqIndex_of h0 h5] at h1
      exact Option.some.inj h1
    exact wpAny_getItem_list pl.isList h0 (by omega) (by rw [hj]; simpa using hu) fin
  · have hj : (i' + (its.toArray.size : Int)).toNat = j := by
      rw [seqIndex_neg (by omega) h4] at h1
      rw [List.size_toArray, ← hl]
      exact Option.some.inj h1
    exact wpAny_getItem_list_neg pl.isList (by omega) (by rw [List.size_toArray] <;> omega) (by omega) (by rw [hj]; simpa using hu) fin
/-- o.f as a target -/
def gFld (K : PySem.W.Frag) (to : TE) (f : Str) : TG := fun v σ H Q => to σ H fun x H2 => ∃ a C dx fs, x = .ref a ∧ H2 a = some (.ins C dx fs) ∧ Cls K C ∧ NoAttr K C f ∧ fs.length < 1000 ∧ Q σ (upd H2 a (.ins C dx (putF f v fs)))
theorem pg_fld {X : Cx} {o : Expr} {f : Str} {to : TE} {pos : Pos} (ho : PE X o to) : PG X (.Attribute o f pos) (gFld X.K to f) := by
  refine ⟨fun pins s σ H v u Q I r h => ?_⟩
  rw [assign_Attribute]
  refine wpAny_bind (wpAny_holding (thn (ho.run pins s σ H _ I h) fun ov s1 ⟨x, H1, I1, rx, a, C, dx, fs, ex, ea, c, n, l, q⟩ => ?_))
  subst ex
  obtain rfl : ov = Value.ref a := rx
  refine wpAny_bind (wpAny_standAt (wpAny_bind (wpAny_holding ?_)))
  exact setattr_ok I1 ea c n l r fun s3 I3 => wpAny_release ⟨σ, _, I3, q⟩

/-! ### the module's table of kinds -/
def rKd (K : PySem.W.Frag) (d : Addr) : R2 := fun x y H Q => ∃ (z : Str) (u0 : Value) (v0 : V), x = .ref d ∧ y = .str z ∧ PySem.W.nsIn K d z = some (some u0) ∧ RelV v0 u0 ∧ Q v0 H
def rInKd (K : PySem.W.Frag) (d : Addr) : R2 := fun x y H Q => ∃ (z : Str) (r : Option Value), x = .str z ∧ y = .ref d ∧ PySem.W.nsIn K d z = some r ∧ Q (.bl r.isSome) H
theorem ix_kd {X : Cx} {d : Addr} {es : Array DictEntry} {n : Nat} (Dk : KDict X.K X.w d es n) : IxR X (rKd X.K d) := by
  intro value slice pins s σ H x y v u Q I rx ry h hs
  have h2 := h
  obtain ⟨z, u0, v0, rfl, rfl, e, r, q⟩ := h
  have g := op_item_kd Dk pins s σ H _ _ v u Q I rx ry h2
  cases rx
  obtain ⟨t, rfl⟩ := ry
  exact subscriptTail_builtinR (x := u0) (kd_type Dk I) PySem.F.slot_dict_getitem.lookup (wpAny_getItem_of (PySem.strKind_is X.prog X.w z t) (PySem.W.mapOf_K (prog := X.prog) I.kIn Dk.at_ Dk.lit) (PySem.W.find_K Dk.at_ e) ⟨rfl, ⟨v0, H, I.tok _, r, q⟩⟩) hs
theorem op_inKd {X : Cx} {d : Addr} {es : Array DictEntry} {n : Nat} (Dk : KDict X.K X.w d es n) : OpR X (compareOp .In) (rInKd X.K d) := op_in_kd Dk
/-- what KINDS tells of a kind -/
def KAt (K : PySem.W.Frag) (kd : Addr) (c : Str) (xs : List V) : Prop := ∃ a, PySem.W.nsIn K kd c = some (some (.ref a)) ∧ ∀ H, SqT K H a xs
theorem rd_kix {K : PySem.W.Frag} {δ : DS} {ta : TE} {kd : Addr} {c : Str} {xs : List V} {i : Int} {v : V} {d : D} (h : RD K ta δ (.str c)) (k : KAt K kd c xs) (e : L2.atI xs i = some v) (r : ∀ Hb, Rp K Hb v d) :
    RD K (tOp (rIxT K) (tOp (rKd K kd) (tC (.ref kd)) ta) (tC (.int i))) δ d := fun A σ Hb H q Q k' =>
  h A σ Hb H q _ fun w Hb1 H1 g1 r1 => by
    cases r1
    obtain ⟨a, h1, h2⟩ := k
    exact ⟨c, _, .ref a, rfl, rfl, h1, rfl, a, xs, i, v, rfl, rfl, h2 H1, e, k' v Hb1 H1 g1 (r Hb1)⟩
theorem rd_inKd {K : PySem.W.Frag} {δ : DS} {ta : TE} {kd : Addr} {c : Str} {xs : List V} (h : RD K ta δ (.str c)) (k : KAt K kd c xs) : RD K (tOp (rInKd K kd) ta (tC (.ref kd))) δ (.bl true) := fun A σ Hb H q Q k' =>
  h A σ Hb H q _ fun w Hb1 H1 g1 r1 => by
    cases r1
    obtain ⟨a, h1, h2⟩ := k
    exact ⟨c, _, rfl, rfl, h1, k' _ Hb1 H1 g1 (.bl true)⟩

/-! ### dicts over data -/
def keyD : Key → D
  | .inl i => .int i
  | .inr s => .str s
def hasK (gs : List (Key × D)) (k : Key) : Bool := gs.any fun kv => decide (kv.1 = k)
def lookK (gs : List (Key × D)) (k : Key) : Option D := (gs.find? fun kv => decide (kv.1 = k)).map (·.2)
def putKD (gs : List (Key × D)) (k : Key) (d : D) : List (Key × D) := if hasK gs k = true then gs.map (fun kv => if kv.1 = k then (kv.1, d) else kv) else gs ++ [(k, d)]
section
variable {K : PySem.W.Frag} {H : Hp}
theorem Rp.key {v : V} {k : Key} (h : Rp K H v (keyD k)) : v = kV k := by
  cases k with
  | inl i => cases h; rfl
  | inr s => cases h; rfl
theorem RpK.app : ∀ {a b : List (Key × V)} {x y : List (Key × D)}, RpK K H a x → RpK K H b y → RpK K H (a ++ b) (x ++ y)
  | _, _, _, _, .nil, h => h
  | _, _, _, _, .cons r t, h => .cons r (RpK.app t h)
theorem RpK.any {k : Key} : ∀ {a : List (Key × V)} {x : List (Key × D)}, RpK K H a x → (a.any fun kv => decide (kv.1 = k)) = hasK x k
  | _, _, .nil => rfl
  | _, _, .cons r t => by
    show (decide _ || _) = (decide _ || _)
    rw [RpK.any t]
    rfl
theorem RpK.put {k : Key} {v : V} {d : D} (h : Rp K H v d) {a : List (Key × V)} {x : List (Key × D)} (r : RpK K H a x) : RpK K H (putK a k v) (putKD x k d) := by
  unfold putK putKD
  rw [r.any]
  split
  · have go : ∀ {a : List (Key × V)} {x : List (Key × D)}, RpK K H a x → RpK K H (a.map fun kv => if kv.1 = k then (kv.1, v) else kv) (x.map fun kv => if kv.1 = k then (kv.1, d) else kv) := by
      intro a
      induction a with
      | nil =>
        intro x r
        cases r
        exact .nil
      | cons p a ih =>
        intro x r
        cases r with
        | @cons f w e _ gs q t =>
          rw [List.map_cons, List.map_cons]
          by_cases z : f = k
          · rw [if_pos z, if_pos z]
            exact .cons h (ih t)
          · rw [if_neg z, if_neg z]
            exact .cons q (ih t)
    exact go r
  · exact r.app (.cons h .nil)
theorem RpK.val {k : Key} {d : D} : ∀ {a : List (Key × V)} {x : List (Key × D)}, RpK K H a x → lookK x k = some d → ∃ v, valV a k = some v ∧ Rp K H v d
  | _, _, .nil, h => by cases h
  | _, _, .cons (f := f) (v := v) (d := d0) (gs := gs0) r t, h => by
    by_cases z : f = k
    · have e : lookK ((f, d0) :: gs0) k = some d0 := by
        unfold lookK
        rw [List.find?_cons_of_pos (by exact decide_eq_true z)]
        rfl
      rw [e] at h
      cases h
      exact ⟨v, valV_pos z, r⟩
    · have e : lookK ((f, d0) :: gs0) k = lookK gs0 k := by
        unfold lookK
        rw [List.find?_cons_of_neg (by simpa using z)]
      rw [e] at h
      obtain ⟨w, h1, h2⟩ := RpK.val t h
      exact ⟨w, (valV_neg z).trans h1, h2⟩
theorem RpK.isS {k : Key} {a : List (Key × V)} {x : List (Key × D)} (r : RpK K H a x) : (valV a k).isSome = hasK x k := by
  rw [← valV_any, r.any]
theorem len_putKD (gs : List (Key × D)) (k : Key) (d : D) : (putKD gs k d).length ≤ gs.length + 1 := by
  unfold putKD
  split
  · rw [List.length_map]
    omega
  · rw [List.length_append]
    exact Nat.le_refl _
theorem hasK_put (gs : List (Key × D)) (k j : Key) (d : D) : hasK (putKD gs k d) j = (decide (j = k) || hasK gs j) := by
  unfold putKD
  split
  · rename_i h
    have e : hasK (gs.map fun kv => if kv.1 = k then (kv.1, d) else kv) j = hasK gs j := by
      unfold hasK
      rw [List.any_map]
      congr 1
      funext kv
      show decide ((if kv.1 = k then (kv.1, d) else kv).1 = j) = decide (kv.1 = j)
      split <;> rfl
    rw [e]
    by_cases z : j = k
    · subst z
      rw [h]
      simp
    · rw [decide_eq_false z, Bool.false_or]
  · unfold hasK
    rw [List.any_append, List.any_cons, List.any_nil, Bool.or_false, Bool.or_comm]
    congr 1
    exact decide_eq_decide.mpr ⟨Eq.symm, Eq.symm⟩
end
section
variable {K : PySem.W.Frag} {δ : DS} {N : DS → Prop} {R : DS → D → Prop} {ty td te tk tv : TE} {u : TS} {gs : List (Key × D)} {k : Key} {d : D}
theorem rd_din (hy : RD K ty δ (keyD k)) (hd : RD K td δ (.dic gs)) : RD K (tDIn ty td) δ (.bl (hasK gs k)) := fun A σ Hb H q Q kk =>
  hy A σ Hb H q _ fun y Hb1 H1 g1 r1 => hd A σ Hb1 H1 (q.grow g1) _ fun x Hb2 H2 g2 r2 => by
    have e := r1.key
    subst e
    cases r2 with
    | @dic a kvs _ hx r =>
      refine ⟨a, _, rfl, DGet.k (k := k) (g2.s _ _ hx), ?_⟩
      rw [r.isS]
      exact kk _ Hb2 H2 (g1.trans g2) (.bl _)
theorem rd_dget (hy : RD K ty δ (keyD k)) (hd : RD K td δ (.dic gs)) (hk : lookK gs k = some d) : RD K (tDGet td ty) δ d := fun A σ Hb H q Q kk =>
  hd A σ Hb H q _ fun x Hb1 H1 g1 r1 => hy A σ Hb1 H1 (q.grow g1) _ fun y Hb2 H2 g2 r2 => by
    have e := r2.key
    subst e
    have r3 := r1.ext g2.b
    cases r3 with
    | @dic a kvs _ hx r =>
      obtain ⟨v, hv, rv⟩ := r.val hk
      exact ⟨a, v, rfl, hv ▸ DGet.k (k := k) (g2.s _ _ hx), kk v Hb2 H2 (g1.trans g2) rv⟩
/-- y not in d, d the dict that a slot owns -/
theorem rd_dniO {i : Nat} {p : Addr} (hi : δ[i]? = some (.ownD p gs)) (hy : RD K ty δ (keyD k)) : RD K (tDNotIn ty (tVar i)) δ (.bl (!hasK gs k)) := fun A σ Hb H q Q kk =>
  hy A σ Hb H q _ fun y Hb1 H1 g1 r1 => by
    have e := r1.key
    subst e
    obtain ⟨o, h1, h2, h3, h4, xs, h5, h6⟩ := (q.grow g1).sl i _ hi
    subst h2
    refine ⟨_, h1, p, _, rfl, DGet.k (k := k) h5, ?_⟩
    rw [h6.isS]
    exact kk _ Hb1 H1 g1 (.bl _)
/-- d[y] = e, d the dict that a slot owns -/
theorem sd_dput {i : Nat} {p : Addr} (hi : δ[i]? = some (.ownD p gs)) (hv : RD K tv δ d) (hy : RD K ty δ (keyD k)) (hz : gs.length < 100000) (n : N (δ.set i (.ownD p (putKD gs k d)))) : SD K (sDPut (tVar i) ty tv) δ N R := fun A σ Hb H q Dn kn kr =>
  hv A σ Hb H q _ fun v Hb1 H1 g1 r1 => by
    obtain ⟨o, h1, h2, _⟩ := (q.grow g1).sl i _ hi
    subst h2
    refine ⟨_, h1, hy A σ Hb1 H1 (q.grow g1) _ fun y Hb2 H2 g2 r2 => ?_⟩
    have e := r2.key
    subst e
    have q2 := (q.grow g1).grow g2
    obtain ⟨o', h1', h2', h3, h4, xs, h5, h6⟩ := q2.sl i _ hi
    subst h2'
    refine ⟨p, _, rfl, DPut.k (k := k) (v := v) h5 (by rw [h6.len]; exact szl5 hz), ?_⟩
    refine kn _ σ Hb2 _ n (g1.trans g2).b (q2.mut hi rfl rfl h1' ?_)
    exact ⟨rfl, h3, h4, _, upd_same, h6.put (r1.ext g2.b)⟩
theorem sq_dput {i : Nat} {p : Addr} (hi : δ[i]? = some (.ownD p gs)) (hv : RD K tv δ d) (hy : RD K ty δ (keyD k)) (hz : gs.length < 100000) (kk : SD K u (δ.set i (.ownD p (putKD gs k d))) N R) : SD K (tSeq (sDPut (tVar i) ty tv) u) δ N R :=
  sd_seq (N' := fun δ' => δ' = δ.set i (.ownD p (putKD gs k d))) (sd_dput hi hv hy hz rfl) fun _ e => e ▸ kk
/-- {k: v for ..} -/
theorem rd_dc {wi : TI} {g : TG} {vs : List Nat} {ds : List D} (kf : D → Key) (vf : D → D) (hw : WI K wi δ ds) (hz : ds.length ≤ 99999)
    (hs : ∀ (i : Nat) (d : D), ds[i]? = some d → ∃ is δ2, GD K g is d (DS.wipe δ vs) δ2 ∧ (∀ i ∈ is, i ∈ vs) ∧ RD K tk δ2 (keyD (kf d)) ∧ RD K tv δ2 (vf d)) :
    RD K (tDc wi g tYes tk tv vs) δ (.dic (ds.foldl (fun acc d => putKD acc (kf d) (vf d)) [])) := fun A σ Hb H q Q k =>
  hw A σ Hb H q _ fun J Hb1 H1 g1 wk => fun Dl hD => by
    have hD0 : Hb1 Dl = none := g1.s.free hD
    refine ⟨fun i m H' => m = ds.length - i ∧ i ≤ ds.length ∧ ∃ Hb' acc, Gr Hb1 H1 Hb' H' ∧ Hb' Dl = none ∧ H' Dl = some (.dK acc) ∧ RpK K Hb' acc ((ds.take i).foldl (fun acc d => putKD acc (kf d) (vf d)) []) ∧ acc.length ≤ i,
      ⟨ds.length, by simp, Nat.zero_le _, Hb1, [], Gr.newO g1.s hD, hD0, upd_same, .nil, Nat.le_refl _⟩, ?_⟩
    rintro i m H' ⟨rfl, hi, Hb', acc, g2, hD1, hD2, ra, hl⟩
    obtain ⟨stop, step⟩ := wk Hb' H' g2.b g2.s
    by_cases hlt : i < ds.length
    · obtain ⟨go, yld⟩ := step i ds[i] (List.getElem?_eq_getElem hlt)
      refine .inr ⟨go, fun H3 => i + 1 ≤ ds.length ∧ ∃ Hb' acc, Gr Hb1 H1 Hb' H3 ∧ Hb' Dl = none ∧ H3 Dl = some (.dK acc) ∧ RpK K Hb' acc ((ds.take (i + 1)).foldl (fun acc d => putKD acc (kf d) (vf d)) []) ∧ acc.length ≤ i + 1, fun H3 z => ⟨ds.length - (i + 1), by omega, rfl, z⟩, fun x H3 hy => ?_⟩
      obtain ⟨Hb3, g3, rx⟩ := yld x H3 hy
      have hD3 : Hb3 Dl = none := g3.o _ hD1 (by rw [hD2]; simp)
      have hD4 : H3 Dl = some (.dK acc) := g3.h _ _ hD2
      have g13 := g2.trans g3
      obtain ⟨is, δ2, G, his, TK, TV⟩ := hs i ds[i] (List.getElem?_eq_getElem hlt)
      refine G A _ Hb3 H3 x ((q.grow (g1.trans g13)).wipe vs) rx _ fun σ2 h2 wp => ⟨?_, ?_⟩
      · rw [wp vs his, wipe_idem]
      · have tkk : ds.take (i + 1) = ds.take i ++ [ds[i]] := take_snoc (List.getElem?_eq_getElem hlt)
        have mutt : ∀ {Hb5 H5 : Hp} {o : HO}, Gr Hb1 H1 Hb5 H5 → Hb5 Dl = none → Gr Hb1 H1 Hb5 (upd H5 Dl o) := fun {Hb5 H5 o} gg hn =>
          ⟨gg.b, fun b u e => by rw [upd_ne (ne_of_none e hD)]; exact gg.h b u e, fun b u e => by rw [upd_ne (ne_of_none e hn)]; exact gg.s b u e, gg.o⟩
        show tk σ2 H3 _
        refine TK A σ2 Hb3 H3 h2 _ fun y Hb4 H4 g4 ry => ?_
        have ey := ry.key
        refine TV A σ2 Hb4 H4 (h2.grow g4) _ fun z Hb5 H5 g5 rz => ?_
        have hD5 : Hb5 Dl = none := g5.o _ (g4.o _ hD3 (by rw [hD4]; simp)) (by rw [g4.h _ _ hD4]; simp)
        refine ⟨acc, kf ds[i], ey, g5.h _ _ (g4.h _ _ hD4), szl5 (by omega), hlt, Hb5, putK acc (kf ds[i]) z, mutt ((g13.trans g4).trans g5) hD5, hD5, upd_same, ?_, ?_⟩
        · rw [tkk, List.foldl_append, List.foldl_cons, List.foldl_nil]
          exact (((ra.ext g3.b).ext g4.b).ext g5.b).put rz
        · exact Nat.le_trans (length_putK acc _ z) (by omega)
    · have e : i = ds.length := by omega
      subst e
      refine .inl ⟨stop, k _ (upd Hb' Dl (.dK acc)) H' ?_ (.dic upd_same ?_)⟩
      · refine ⟨(g1.b.trans g2.b).trans (same_new hD1), g1.h.trans g2.h, fun b u e => ?_, fun a h1 h2 => ?_⟩
        · by_cases z : b = Dl
          · subst z
            rw [upd_same] at e
            cases e
            exact hD2
          · rw [upd_ne z] at e
            exact g2.s b u e
        · have z : a ≠ Dl := fun z => by
            subst z
            cases w : H a with
            | none => exact h2 w
            | some u =>
              have := g1.h a u w
              rw [hD] at this
              cases this
          rw [upd_ne z]
          exact g2.o a (g1.o a h1 h2) fun w => h2 (g1.h.free w)
      · rw [List.take_length] at ra
        exact ra.ext (same_new hD1)
end
end K17
/-! the mathematics: what the defs compute, as plain Lean functions -/
namespace K17
inductive Kd where
  | k | p | c2f | c2b | c2fw | c2bw | c4f | c4b | c4fw | c4bw
  deriving DecidableEq
def Kd.tk : Kd → Nat
  | .k => 1 | .p => 1 | .c2f => 2 | .c2b => 2 | .c2fw => 2 | .c2bw => 2 | .c4f => 4 | .c4b => 4 | .c4fw => 4 | .c4bw => 4
def Kd.bk : Kd → Kd
  | .k => .p | .p => .k | .c2f => .c2fw | .c2b => .c2bw | .c2fw => .c2f | .c2bw => .c2b | .c4f => .c4fw | .c4b => .c4bw | .c4fw => .c4f | .c4bw => .c4b
/-- the law's other hand -/
def Kd.oh : Kd → Kd
  | .c2f => .c2b | .c2b => .c2f | .c4f => .c4b | .c4b => .c4f | x => x
abbrev Wd := List Kd
def tkW (w : Wd) : Nat := (w.map Kd.tk).sum
def bkW (w : Wd) : Wd := w.reverse.map Kd.bk
structure Rw where
  b : Wd
  g : Wd
  a : Wd
namespace Rw
def need (r : Rw) : Nat := tkW r.b + tkW r.a
def gr (r : Rw) : Nat := tkW r.g
def back (r : Rw) : Rw := ⟨bkW r.a, bkW r.g, bkW r.b⟩
def oh (r : Rw) : Rw := ⟨r.b.map Kd.oh, r.g.map Kd.oh, r.a.map Kd.oh⟩
def fits (r : Rw) (n : Nat) : Prop := r.need ≤ n ∧ (n - r.need) % r.gr = 0
instance (r : Rw) (n : Nat) : Decidable (r.fits n) := by unfold fits; infer_instance
def turns (r : Rw) (n : Nat) : Nat := (n - r.need) / r.gr
def work (r : Rw) (n : Nat) : Wd := r.b ++ (List.replicate (r.turns n) r.g).flatten ++ r.a
/-- a row as the law draws it -/
structure Ok (r : Rw) : Prop where
  g0 : r.g ≠ []
  lb : r.b.length ≤ 60
  lg : r.g.length ≤ 30
  la : r.a.length ≤ 60
  nd : r.need ≤ 16
  gs : r.gr = 2 ∨ r.gr = 4
end Rw
def blk (c : Nat) (m : Nat) : List Nat := ((List.range (m - m / 2)).map fun i => c + m / 2 + i) ++ (List.range (m / 2)).map fun i => c + i
def sentBy (w : Wd) : List Nat := w.foldl (fun found k => found ++ blk found.length k.tk) []
def move (places found : List Nat) : List Nat := found.map fun p => places.getD p 0
def sentRound (rows : List Rw) (n : Nat) : List Nat := rows.foldl (fun found r => move (sentBy (r.work n)) found) (List.range n)
def sentMany (places : List Nat) : Nat → List Nat
  | 0 => List.range places.length
  | m + 1 => move places (sentMany places m)
def isBack (places : List Nat) (m : Nat) : Bool := decide (sentMany places m = List.range places.length)
def alt (rows : List Rw) : List Rw := rows.mapIdx fun i r => if i % 2 = 1 then r.back else r
def roundOf (rows : List Rw) (round : Bool) : List Rw := if round then rows else alt (if rows.length % 2 = 0 then rows else rows ++ rows)

structure Fm where
  early : List Nat
  start : Nat
  period : Nat
  later : List Nat
  deriving DecidableEq
namespace Fm
def mem (f : Fm) (n : Nat) : Bool := if n < f.start then decide (n ∈ f.early) else decide ((n - f.start) % f.period ∈ f.later)
end Fm
def leastP (marks : List Bool) : Nat := ((List.range' 1 marks.length).find? fun p => decide (marks.length % p = 0) && decide (marks.drop p ++ marks.take p = marks)).getD marks.length
def walkB (early : List Nat) : Nat → List Bool → Nat × List Bool
  | 0, m => (0, m)
  | s + 1, m => if decide (s ∈ early) = m.getLastD false then walkB early s (m.getLastD false :: m.dropLast) else (s + 1, m)
def marksL (f : Fm) : List Bool := (List.range f.period).map fun r => decide (r ∈ f.later)
def Fm.least (f : Fm) : Fm :=
  let short := leastP (marksL f)
  let w := walkB f.early f.start ((marksL f).take short)
  ⟨f.early.filter fun n => decide (n < w.1), w.1, short, (List.range short).filter fun r => w.2.getD r false⟩
def fromM (marks : List Bool) (p : Nat) : Fm := ⟨(List.range (marks.length - p)).filter fun i => marks.getD i false, marks.length - p, p, (List.range p).filter fun r => marks.getD (marks.length - p + r) false⟩
def marksOf (f : Fm) (n : Nat) : List Bool := (List.range n).map f.mem
def setForm (op : Bool → Bool → Bool) (f g : Fm) : Fm :=
  let p := Nat.lcm f.period g.period
  let s := max f.start g.start
  fromM ((List.range (s + p)).map fun n => op (f.mem n) (g.mem n)) p
def opAnd (a b : Bool) : Bool := a && b
def opLess (a b : Bool) : Bool := a && !b
def sAnd (f g : Fm) : Fm := (setForm opAnd f g).least
def sSub (f g : Fm) : Fm := (setForm opLess f g).least
def Fm.some (f : Fm) : Bool := !f.early.isEmpty || !f.later.isEmpty
def within (f g : Fm) : Bool := !(sSub f g).some
def allF : Fm := (⟨[], 0, 1, [0]⟩ : Fm).least
def fromOn (n : Nat) : Fm := (⟨[], n, 1, [0]⟩ : Fm).least
def divs (need t : Nat) : Fm := (⟨[], 0, t, (List.range t).filter fun s => decide (((s : Int) - need) % t = 0)⟩ : Fm).least
def fitF (r : Rw) : Fm := sAnd (fromOn r.need) (divs r.need r.gr)
def whereFits (rows : List Rw) : Fm := rows.foldl (fun f r => sAnd f (fitF r)) allF
def shared (rows : List Rw) : Nat := rows.foldl (fun p r => Nat.lcm p r.gr) 1
def ends (rows : List Rw) : Nat := rows.foldl (fun m r => max m r.need) 0
def wbPeriod (rows : List Rw) : Nat := Nat.lcm (whereFits rows).period (shared rows)
def wbStart (rows : List Rw) (m : Nat) (round : Bool) : Nat := max (whereFits rows).start (2 * (2 * m * (roundOf rows round).length + ends rows) + 2 * wbPeriod rows)
def wbMarks (rows : List Rw) (m : Nat) (round : Bool) : List Bool := (List.range (wbStart rows m round + wbPeriod rows)).map fun n => (whereFits rows).mem n && isBack (sentRound (roundOf rows round) n) m
def whereBack (rows : List Rw) (m : Nat) (round : Bool) : Fm := (fromM (wbMarks rows m round) (wbPeriod rows)).least

/-- one turn of cycles: fuel, known, now, many -/
def cyOne (places : List Nat) : Nat → List Nat → Nat → Nat → List Nat × Nat
  | 0, known, _, many => (known, many)
  | f + 1, known, now, many => if now ∈ known then (known, many) else cyOne places f (known ++ [now]) (places.getD now 0) (many + 1)
def cyAll (places : List Nat) : List Nat → List Nat → List Nat → List Nat
  | [], _, found => found
  | x :: xs, known, found =>
    let r := cyOne places (places.length + 1 - known.length) known x 0
    cyAll places xs r.1 (if 0 < r.2 then found ++ [r.2] else found)
def cycles (places : List Nat) : List Nat := cyAll places (List.range places.length) [] []
def lcmL (l : List Nat) : Nat := l.foldl Nat.lcm 1
def backAfter (rows : List Rw) (n : Nat) (round : Bool) : Nat := lcmL (cycles (sentRound (roundOf rows round) n))
end K17
/-! forms: bounds, what stands in them -/
namespace K17
structure Fm.Wf (f : Fm) : Prop where
  s : f.start ≤ 2000
  p0 : 0 < f.period
  p1 : f.period ≤ 64
  e1 : f.early.Pairwise (· < ·)
  e2 : ∀ x ∈ f.early, x < f.start
  l1 : f.later.Pairwise (· < ·)
  l2 : ∀ x ∈ f.later, x < f.period
theorem nodup_lt {l : List Nat} {n : Nat} (h : l.Nodup) (h2 : ∀ x ∈ l, x < n) : l.length ≤ n := by
  have := h.length_le_of_subset (l₂ := List.range n) fun x hx => List.mem_range.mpr (h2 x hx)
  rwa [List.length_range] at this
theorem pw_nodup {l : List Nat} (h : l.Pairwise (· < ·)) : l.Nodup := h.imp fun h => Nat.ne_of_lt h
theorem Fm.Wf.el {f : Fm} (h : f.Wf) : f.early.length ≤ 2000 := Nat.le_trans (nodup_lt (pw_nodup h.e1) h.e2) h.s
theorem Fm.Wf.ll {f : Fm} (h : f.Wf) : f.later.length ≤ 64 := Nat.le_trans (nodup_lt (pw_nodup h.l1) h.l2) h.p1
theorem filt_range (p : Nat → Bool) (n : Nat) : ((List.range n).filter p).Pairwise (· < ·) := List.pairwise_lt_range.filter p
theorem filt_lt (p : Nat → Bool) (n : Nat) : ∀ x ∈ (List.range n).filter p, x < n := fun x hx => List.mem_range.mp (List.mem_filter.mp hx).1
theorem fromM_wf {m : List Bool} {p : Nat} (h0 : 0 < p) (h1 : p ≤ 64) (h2 : m.length ≤ 2000) : (fromM m p).Wf :=
  ⟨Nat.le_trans (Nat.sub_le _ _) h2, h0, h1, filt_range _ _, filt_lt _ _, filt_range _ _, filt_lt _ _⟩
/-- the least period -/
def goodP (m : List Bool) (p : Nat) : Bool := decide (m.length % p = 0) && decide (m.drop p ++ m.take p = m)
theorem leastP_some {m : List Bool} {p : Nat} (h0 : 1 ≤ p) (h1 : p ≤ m.length) (g : goodP m p = true) (h : ∀ j, 1 ≤ j → j < p → goodP m j = false) : leastP m = p := by
  unfold leastP
  have e : (List.range' 1 m.length).find? (fun p => decide (m.length % p = 0) && decide (m.drop p ++ m.take p = m)) = some p := by
    rw [List.find?_range'_eq_some]
    refine ⟨g, List.mem_range'.mpr ⟨p - 1, by omega, by omega⟩, fun j a b => ?_⟩
    rw [Bool.not_eq_true']
    exact h j a b
  rw [e]
  rfl
theorem leastP_none {m : List Bool} (h : ∀ j, 1 ≤ j → j ≤ m.length → goodP m j = false) : leastP m = m.length := by
  unfold leastP
  have e : (List.range' 1 m.length).find? (fun p => decide (m.length % p = 0) && decide (m.drop p ++ m.take p = m)) = none := by
    rw [List.find?_range'_eq_none]
    intro i a b
    rw [Bool.not_eq_true']
    exact h i a (by omega)
  rw [e]
  rfl
theorem goodP_len (m : List Bool) : goodP m m.length = true := by
  unfold goodP
  rw [Nat.mod_self, List.drop_length, List.take_length]
  simp
theorem leastP_spec {m : List Bool} (h : m ≠ []) : 1 ≤ leastP m ∧ leastP m ≤ m.length ∧ goodP m (leastP m) = true := by
  have hl := List.length_pos_iff.mpr h
  unfold leastP
  cases e : (List.range' 1 m.length).find? (fun p => decide (m.length % p = 0) && decide (m.drop p ++ m.take p = m)) with
  | none => exact ⟨hl, Nat.le_refl _, goodP_len m⟩
  | some p =>
    rw [List.find?_range'_eq_some] at e
    obtain ⟨a, b, _⟩ := e
    rw [List.mem_range'] at b
    obtain ⟨i, b1, b2⟩ := b
    refine ⟨?_, ?_, a⟩
    · show 1 ≤ p
      omega
    · show p ≤ m.length
      omega
theorem walkB_le (early : List Nat) : ∀ (s : Nat) (m : List Bool), (walkB early s m).1 ≤ s ∧ (m ≠ [] → (walkB early s m).2.length = m.length)
  | 0, m => ⟨Nat.le_refl _, fun _ => rfl⟩
  | s + 1, m => by
    unfold walkB
    split
    · obtain ⟨a, b⟩ := walkB_le early s (m.getLastD false :: m.dropLast)
      refine ⟨Nat.le_succ_of_le a, fun h => ?_⟩
      rw [b (by simp), List.length_cons, List.length_dropLast]
      have := List.length_pos_iff.mpr h
      omega
    · exact ⟨Nat.le_refl _, fun _ => rfl⟩
theorem marksL_len (f : Fm) : (marksL f).length = f.period := by
  unfold marksL
  rw [List.length_map, List.length_range]
theorem marksL_ne {f : Fm} (h : 0 < f.period) : marksL f ≠ [] := by
  intro e
  have := marksL_len f
  rw [e] at this
  simp at this
  omega
theorem least_period {f : Fm} (h : 0 < f.period) : 1 ≤ f.least.period ∧ f.least.period ≤ f.period := by
  obtain ⟨a, b, _⟩ := leastP_spec (marksL_ne h)
  rw [marksL_len] at b
  exact ⟨a, b⟩
theorem least_start (f : Fm) : f.least.start ≤ f.start := (walkB_le _ _ _).1
theorem least_wf {f : Fm} (h : f.Wf) : f.least.Wf := by
  obtain ⟨a, b⟩ := least_period h.p0
  refine ⟨Nat.le_trans (least_start f) h.s, a, Nat.le_trans b h.p1, h.e1.filter _, fun x hx => ?_, filt_range _ _, filt_lt _ _⟩
  exact of_decide_eq_true (List.mem_filter.mp hx).2
theorem setForm_len (op : Bool → Bool → Bool) (f g : Fm) : (setForm op f g).start = max f.start g.start ∧ (setForm op f g).period = Nat.lcm f.period g.period := by
  unfold setForm fromM
  simp
theorem setForm_wf {op : Bool → Bool → Bool} {f g : Fm} (h : f.Wf) (h2 : g.Wf) (h3 : Nat.lcm f.period g.period ≤ 64) (h4 : max f.start g.start ≤ 1900) : (setForm op f g).Wf := by
  refine fromM_wf (Nat.lcm_pos h.p0 h2.p0) h3 ?_
  rw [List.length_map, List.length_range]
  omega
end K17
/-! bounds of the sets that the walk makes -/
namespace K17
theorem fromOn_wf {n : Nat} (h : n ≤ 1000) : (fromOn n).Wf ∧ (fromOn n).period = 1 ∧ (fromOn n).start ≤ n := by
  have w : (⟨[], n, 1, [0]⟩ : Fm).Wf := ⟨Nat.le_trans h (by decide), Nat.one_pos, Nat.le_of_ble_eq_true rfl, by simp, by simp, by simp, by simp⟩
  obtain ⟨a, b⟩ := least_period (f := ⟨[], n, 1, [0]⟩) w.p0
  refine ⟨least_wf w, ?_, least_start _⟩
  have b : (fromOn n).period ≤ 1 := b
  have a : 1 ≤ (fromOn n).period := a
  omega
theorem divs_wf0 {need t : Nat} (h0 : 0 < t) (h : t ≤ 64) : (⟨[], 0, t, (List.range t).filter fun s => decide (((s : Int) - need) % t = 0)⟩ : Fm).Wf :=
  ⟨Nat.zero_le _, h0, h, by simp, by simp, filt_range _ _, filt_lt _ _⟩
theorem divs_wf {need t : Nat} (h0 : 0 < t) (h : t ≤ 64) : (divs need t).Wf ∧ (divs need t).period ≤ t ∧ (divs need t).start = 0 := by
  refine ⟨least_wf (divs_wf0 h0 h), (least_period (divs_wf0 (need := need) h0 h).p0).2, ?_⟩
  have := least_start (⟨[], 0, t, (List.range t).filter fun s => decide (((s : Int) - need) % t = 0)⟩ : Fm)
  exact Nat.le_zero.mp this
theorem lcm1 (n : Nat) : Nat.lcm 1 n = n := Nat.lcm_one_left n
theorem allF_eq : allF = ⟨[], 0, 1, [0]⟩ := by decide
end K17
/-! places: a row sends the loops' places to places, one for one -/
namespace K17
theorem blk_perm (c m : Nat) : (blk c m).Perm ((List.range m).map fun i => c + i) := by
  unfold blk
  have e : (List.range m).map (fun i => c + i) = (List.range (m / 2)).map (fun i => c + i) ++ (List.range (m - m / 2)).map fun i => c + m / 2 + i := by
    conv => lhs; rw [show m = m / 2 + (m - m / 2) by omega]
    rw [List.range_add, List.map_append, List.map_map]
    congr 1
    apply List.map_congr_left
    intro i _
    show c + (m / 2 + i) = c + m / 2 + i
    omega
  rw [e]
  exact List.perm_append_comm
def tkA (w : Wd) (acc : List Nat) : List Nat := w.foldl (fun found k => found ++ blk found.length k.tk) acc
theorem tkA_perm : ∀ (w : Wd) (acc : List Nat), acc.Perm (List.range acc.length) → (tkA w acc).Perm (List.range (acc.length + tkW w))
  | [], acc, h => h
  | k :: w, acc, h => by
    have hb := blk_perm acc.length k.tk
    have h2 : (acc ++ blk acc.length k.tk).Perm (List.range (acc.length + k.tk)) := by
      rw [List.range_add]
      exact h.append hb
    have hl : (acc ++ blk acc.length k.tk).length = acc.length + k.tk := by
      rw [h2.length_eq, List.length_range]
    have := tkA_perm w (acc ++ blk acc.length k.tk) (by rw [hl]; exact h2)
    rw [hl] at this
    show (tkA w (acc ++ blk acc.length k.tk)).Perm _
    have e : tkW (k :: w) = k.tk + tkW w := by
      unfold tkW
      rw [List.map_cons, List.sum_cons]
    rw [e, ← Nat.add_assoc]
    exact this
theorem sentBy_perm (w : Wd) : (sentBy w).Perm (List.range (tkW w)) := by
  have := tkA_perm w [] (List.Perm.refl _)
  rw [List.length_nil, Nat.zero_add] at this
  exact this
theorem sentBy_len (w : Wd) : (sentBy w).length = tkW w := by
  rw [(sentBy_perm w).length_eq, List.length_range]
theorem perm_lt {l : List Nat} {n : Nat} (h : l.Perm (List.range n)) : ∀ x ∈ l, x < n := fun x hx => List.mem_range.mp (h.mem_iff.mp hx)
theorem perm_len {l : List Nat} {n : Nat} (h : l.Perm (List.range n)) : l.length = n := by
  rw [h.length_eq, List.length_range]
theorem getD_range {places : List Nat} : (List.range places.length).map (fun p => places.getD p 0) = places := by
  apply List.ext_getElem
  · rw [List.length_map, List.length_range]
  · intro i h1 h2
    rw [List.getElem_map, List.getElem_range, List.getD_eq_getElem?_getD, List.getElem?_eq_getElem h2]
    rfl
theorem move_perm {places found : List Nat} {n : Nat} (h : places.Perm (List.range n)) (h2 : found.Perm (List.range n)) : (move places found).Perm (List.range n) := by
  unfold move
  refine (h2.map _).trans ?_
  have e := getD_range (places := places)
  rw [perm_len h] at e
  rw [e]
  exact h
theorem tkW_app (a b : Wd) : tkW (a ++ b) = tkW a + tkW b := by
  unfold tkW
  rw [List.map_append, List.sum_append]
theorem tkW_rep (g : Wd) : ∀ k : Nat, tkW (List.replicate k g).flatten = k * tkW g
  | 0 => by rw [Nat.zero_mul]; rfl
  | k + 1 => by
    rw [List.replicate_succ, List.flatten_cons, tkW_app, tkW_rep g k, Nat.succ_mul]
    omega
theorem work_tk {r : Rw} {n : Nat} (h : r.fits n) (hg : 0 < r.gr) : tkW (r.work n) = n := by
  obtain ⟨h1, h2⟩ := h
  unfold Rw.work
  rw [tkW_app, tkW_app, tkW_rep]
  have e : r.turns n * tkW r.g = n - r.need := by
    unfold Rw.turns
    exact Nat.div_mul_cancel (Nat.dvd_of_mod_eq_zero h2)
  rw [e]
  unfold Rw.need at h1 ⊢
  omega
def FitAll (rows : List Rw) (n : Nat) : Prop := ∀ r ∈ rows, r.fits n ∧ 0 < r.gr
def sentR (rows : List Rw) (n : Nat) (acc : List Nat) : List Nat := rows.foldl (fun found r => move (sentBy (r.work n)) found) acc
theorem sentR_perm {n : Nat} : ∀ (rows : List Rw) (acc : List Nat), FitAll rows n → acc.Perm (List.range n) → (sentR rows n acc).Perm (List.range n)
  | [], acc, _, h => h
  | r :: rows, acc, hf, h => by
    obtain ⟨h1, h2⟩ := hf r (List.mem_cons_self ..)
    refine sentR_perm rows _ (fun x hx => hf x (List.mem_cons_of_mem _ hx)) (move_perm ?_ h)
    have := sentBy_perm (r.work n)
    rwa [work_tk h1 h2] at this
theorem sentRound_perm {rows : List Rw} {n : Nat} (h : FitAll rows n) : (sentRound rows n).Perm (List.range n) := sentR_perm rows _ h (List.Perm.refl _)
theorem sentMany_perm {places : List Nat} {n : Nat} (h : places.Perm (List.range n)) : ∀ m : Nat, (sentMany places m).Perm (List.range n)
  | 0 => by
    show (List.range places.length).Perm _
    rw [perm_len h]
  | m + 1 => move_perm h (sentMany_perm h m)
/-! rows -/
theorem bk_tk (k : Kd) : k.bk.tk = k.tk := by cases k <;> rfl
theorem tkW_rev (w : Wd) : tkW w.reverse = tkW w := by
  unfold tkW
  rw [List.map_reverse, List.sum_reverse]
theorem tkW_bk (w : Wd) : tkW (bkW w) = tkW w := by
  unfold bkW
  rw [show tkW (w.reverse.map Kd.bk) = tkW w.reverse from ?_, tkW_rev]
  unfold tkW
  rw [List.map_map]
  congr 1
  apply List.map_congr_left
  intro k _
  exact bk_tk k
theorem need_back (r : Rw) : r.back.need = r.need := by
  unfold Rw.need Rw.back
  simp only [tkW_bk]
  omega
theorem gr_back (r : Rw) : r.back.gr = r.gr := tkW_bk r.g
theorem Rw.Ok.back {r : Rw} (h : r.Ok) : r.back.Ok := by
  refine ⟨fun e => ?_, ?_, ?_, ?_, ?_, ?_⟩
  · have : (bkW r.g).length = 0 := by
      rw [show bkW r.g = [] from e]
      rfl
    unfold bkW at this
    rw [List.length_map, List.length_reverse] at this
    exact h.g0 (List.length_eq_zero_iff.mp this)
  · show (bkW r.a).length ≤ 60
    unfold bkW
    rw [List.length_map, List.length_reverse]
    exact h.la
  · show (bkW r.g).length ≤ 30
    unfold bkW
    rw [List.length_map, List.length_reverse]
    exact h.lg
  · show (bkW r.b).length ≤ 60
    unfold bkW
    rw [List.length_map, List.length_reverse]
    exact h.lb
  · rw [need_back]
    exact h.nd
  · rw [gr_back]
    exact h.gs
theorem fits_back {r : Rw} {n : Nat} (h : r.fits n) : r.back.fits n := by
  unfold Rw.fits at h ⊢
  rw [need_back, gr_back]
  exact h
structure RowsOk (rows : List Rw) : Prop where
  ok : ∀ r ∈ rows, r.Ok
  l0 : 1 ≤ rows.length
  l1 : rows.length ≤ 6
theorem alt_mem {rows : List Rw} {r : Rw} (h : r ∈ alt rows) : ∃ s ∈ rows, r = s ∨ r = s.back := by
  unfold alt at h
  rw [List.mem_mapIdx] at h
  obtain ⟨i, hi, e⟩ := h
  refine ⟨rows[i], List.getElem_mem hi, ?_⟩
  split at e
  · exact .inr e.symm
  · exact .inl e.symm
theorem roundOf_mem {rows : List Rw} {b : Bool} {r : Rw} (h : r ∈ roundOf rows b) : ∃ s ∈ rows, r = s ∨ r = s.back := by
  unfold roundOf at h
  split at h
  · exact ⟨r, h, .inl rfl⟩
  · obtain ⟨s, hs, e⟩ := alt_mem h
    refine ⟨s, ?_, e⟩
    split at hs
    · exact hs
    · rcases List.mem_append.mp hs with z | z <;> exact z
theorem roundOf_ok {rows : List Rw} {b : Bool} (h : RowsOk rows) : ∀ r ∈ roundOf rows b, r.Ok := fun r hr => by
  obtain ⟨s, hs, e⟩ := roundOf_mem hr
  rcases e with e | e
  · rw [e]; exact h.ok s hs
  · rw [e]; exact (h.ok s hs).back
theorem roundOf_len (rows : List Rw) (b : Bool) : (roundOf rows b).length = if b then rows.length else if rows.length % 2 = 0 then rows.length else 2 * rows.length := by
  unfold roundOf alt
  cases b with
  | true => rfl
  | false =>
    simp only [Bool.false_eq_true, if_false, List.length_mapIdx]
    split
    · rfl
    · rw [List.length_append]
      omega
theorem roundOf_len6 {rows : List Rw} (b : Bool) (h : rows.length ≤ 3 ∨ rows.length = 6 ∨ rows.length = 4) : (roundOf rows b).length ≤ 6 ∧ rows.length ≤ (roundOf rows b).length := by
  rw [roundOf_len]
  split
  · omega
  · split <;> omega
theorem Rw.Ok.gr0 {r : Rw} (h : r.Ok) : 0 < r.gr := by
  have := h.gs
  omega
theorem fitAll_round {rows : List Rw} {b : Bool} {n : Nat} (h : RowsOk rows) (hf : ∀ r ∈ rows, r.fits n) : FitAll (roundOf rows b) n := fun r hr => by
  refine ⟨?_, (roundOf_ok h r hr).gr0⟩
  obtain ⟨s, hs, e⟩ := roundOf_mem hr
  rcases e with e | e
  · rw [e]; exact hf s hs
  · rw [e]; exact fits_back (hf s hs)
/-! bounds of where_fits and where_back -/
structure Fm.B (f : Fm) (s : Nat) : Prop where
  wf : f.Wf
  p4 : f.period ∣ 4
  st : f.start ≤ s
theorem d4_le {p : Nat} (h : p ∣ 4) : p ≤ 4 := Nat.le_of_dvd (by decide) h
theorem least_dvd {f : Fm} (h : 0 < f.period) : f.least.period ∣ f.period := by
  obtain ⟨_, _, g⟩ := leastP_spec (marksL_ne h)
  unfold goodP at g
  rw [Bool.and_eq_true, decide_eq_true_eq, marksL_len] at g
  exact Nat.dvd_of_mod_eq_zero g.1
theorem least_B {f : Fm} {s : Nat} (h : f.Wf) (h2 : f.period ∣ 4) (h3 : f.start ≤ s) : f.least.B s := ⟨least_wf h, Nat.dvd_trans (least_dvd h.p0) h2, Nat.le_trans (least_start f) h3⟩
theorem setForm_B {op : Bool → Bool → Bool} {f g : Fm} {s : Nat} (hf : f.B s) (hg : g.B s) (hs : s ≤ 1900) : (setForm op f g).least.B s := by
  have hl : Nat.lcm f.period g.period ∣ 4 := Nat.lcm_dvd hf.p4 hg.p4
  have h1 := hf.st
  have h2 := hg.st
  obtain ⟨a, b⟩ := setForm_len op f g
  refine least_B (setForm_wf hf.wf hg.wf (Nat.le_trans (d4_le hl) (by decide)) (by omega)) ?_ ?_
  · rw [b]; exact hl
  · rw [a]; omega
theorem fromOn_B {n s : Nat} (h : n ≤ 1000) (h2 : n ≤ s) : (fromOn n).B s := by
  obtain ⟨a, b, c⟩ := fromOn_wf h
  exact ⟨a, by rw [b]; exact Nat.one_dvd 4, Nat.le_trans c h2⟩
theorem divs_B {need t s : Nat} (h0 : 0 < t) (h : t ∣ 4) : (divs need t).B s := by
  have ht : t ≤ 64 := Nat.le_trans (d4_le h) (by decide)
  obtain ⟨a, b, c⟩ := divs_wf (need := need) h0 ht
  refine ⟨a, ?_, by omega⟩
  exact Nat.dvd_trans (least_dvd (divs_wf0 (need := need) h0 ht).p0) h
theorem gr_d4 {r : Rw} (h : r.Ok) : r.gr ∣ 4 := by
  rcases h.gs with e | e <;> rw [e]
  · exact ⟨2, rfl⟩
  · exact ⟨1, rfl⟩
theorem fitF_B {r : Rw} (h : r.Ok) : (fitF r).B 16 := setForm_B (fromOn_B (Nat.le_trans h.nd (by decide)) h.nd) (divs_B h.gr0 (gr_d4 h)) (by decide)
def wfA (rows : List Rw) (f : Fm) : Fm := rows.foldl (fun f r => sAnd f (fitF r)) f
theorem wfA_B : ∀ (rows : List Rw) (f : Fm), (∀ r ∈ rows, r.Ok) → f.B 16 → (wfA rows f).B 16
  | [], f, _, h => h
  | r :: rows, f, ho, h => wfA_B rows _ (fun x hx => ho x (List.mem_cons_of_mem _ hx)) (setForm_B h (fitF_B (ho r (List.mem_cons_self ..))) (by decide))
theorem allF_B {s : Nat} : allF.B s := by
  rw [allF_eq]
  exact ⟨⟨by decide, by decide, by decide, by decide, by decide, by decide, by decide⟩, ⟨4, rfl⟩, Nat.zero_le _⟩
theorem whereFits_B {rows : List Rw} (h : RowsOk rows) : (whereFits rows).B 16 := wfA_B rows _ h.ok allF_B
theorem shared_d4 {rows : List Rw} (h : ∀ r ∈ rows, r.Ok) : shared rows ∣ 4 ∧ 0 < shared rows := by
  have g : ∀ (rows : List Rw) (p : Nat), (∀ r ∈ rows, r.Ok) → p ∣ 4 → 0 < p → rows.foldl (fun p r => Nat.lcm p r.gr) p ∣ 4 ∧ 0 < rows.foldl (fun p r => Nat.lcm p r.gr) p := by
    intro rows
    induction rows with
    | nil => intro p _ h h0; exact ⟨h, h0⟩
    | cons r rows ih => intro p ho h h0; exact ih _ (fun x hx => ho x (List.mem_cons_of_mem _ hx)) (Nat.lcm_dvd h (gr_d4 (ho r (List.mem_cons_self ..)))) (Nat.lcm_pos h0 (ho r (List.mem_cons_self ..)).gr0)
  exact g rows 1 h (Nat.one_dvd 4) Nat.one_pos
theorem wbPeriod_d4 {rows : List Rw} (h : RowsOk rows) : wbPeriod rows ∣ 4 ∧ 0 < wbPeriod rows :=
  ⟨Nat.lcm_dvd (whereFits_B h).p4 (shared_d4 h.ok).1, Nat.lcm_pos (whereFits_B h).wf.p0 (shared_d4 h.ok).2⟩
theorem ends_le {rows : List Rw} (h : ∀ r ∈ rows, r.Ok) : ends rows ≤ 16 := by
  have g : ∀ (rows : List Rw) (p : Nat), (∀ r ∈ rows, r.Ok) → p ≤ 16 → rows.foldl (fun m r => max m r.need) p ≤ 16 := by
    intro rows
    induction rows with
    | nil => intro p _ h; exact h
    | cons r rows ih => intro p ho h; exact ih _ (fun x hx => ho x (List.mem_cons_of_mem _ hx)) (Nat.max_le.mpr ⟨h, (ho r (List.mem_cons_self ..)).nd⟩)
  exact g rows 0 h (Nat.zero_le _)
theorem ends_ge {rows : List Rw} : ∀ r ∈ rows, r.need ≤ ends rows := by
  have g : ∀ (rows : List Rw) (p : Nat), p ≤ rows.foldl (fun m r => max m r.need) p ∧ ∀ r ∈ rows, r.need ≤ rows.foldl (fun m r => max m r.need) p := by
    intro rows
    induction rows with
    | nil => intro p; exact ⟨Nat.le_refl _, fun r hr => by cases hr⟩
    | cons r rows ih =>
      intro p
      obtain ⟨a, b⟩ := ih (max p r.need)
      refine ⟨Nat.le_trans (Nat.le_max_left _ _) a, fun x hx => ?_⟩
      rcases List.mem_cons.mp hx with z | z
      · rw [z]; exact Nat.le_trans (Nat.le_max_right _ _) a
      · exact b x z
  exact (g rows 0).2
theorem ends_mem {rows : List Rw} (h : rows ≠ []) : ends rows ∈ rows.map Rw.need := by
  have g : ∀ (rows : List Rw) (p : Nat), rows.foldl (fun m r => max m r.need) p = p ∨ rows.foldl (fun m r => max m r.need) p ∈ rows.map Rw.need := by
    intro rows
    induction rows with
    | nil => intro p; exact .inl rfl
    | cons r rows ih =>
      intro p
      rcases ih (max p r.need) with z | z
      · rcases Nat.le_total p r.need with q | q
        · rw [List.foldl_cons, z, Nat.max_eq_right q]
          exact .inr (List.mem_cons_self ..)
        · rw [List.foldl_cons, z, Nat.max_eq_left q]
          exact .inl rfl
      · exact .inr (List.mem_cons_of_mem _ z)
  rcases g rows 0 with z | z
  · cases rows with
    | nil => exact absurd rfl h
    | cons r rows =>
      have := ends_ge (rows := r :: rows) r (List.mem_cons_self ..)
      have e : ends (r :: rows) = 0 := z
      rw [e] at this
      rw [e]
      have e2 : r.need = 0 := by omega
      rw [List.map_cons, e2]
      exact List.mem_cons_self ..
  · exact z
structure WbOk (rows : List Rw) (m : Nat) (round : Bool) : Prop where
  r : RowsOk rows
  m1 : 1 ≤ m
  l : m * (roundOf rows round).length ≤ 24
theorem wbStart_le {rows : List Rw} {m : Nat} {round : Bool} (h : WbOk rows m round) : wbStart rows m round ≤ 136 := by
  unfold wbStart
  have h1 := (whereFits_B h.r).st
  have h2 := ends_le h.r.ok
  have h3 := d4_le (wbPeriod_d4 h.r).1
  have h4 := h.l
  rw [Nat.mul_assoc]
  omega
theorem wbMarks_len (rows : List Rw) (m : Nat) (round : Bool) : (wbMarks rows m round).length = wbStart rows m round + wbPeriod rows := by
  unfold wbMarks
  rw [List.length_map, List.length_range]
theorem whereBack_B {rows : List Rw} {m : Nat} {round : Bool} (h : WbOk rows m round) : (whereBack rows m round).B 136 := by
  have h3 := d4_le (wbPeriod_d4 h.r).1
  have h4 := wbStart_le h
  refine least_B (fromM_wf (wbPeriod_d4 h.r).2 (by omega) (by rw [wbMarks_len]; omega)) (wbPeriod_d4 h.r).1 ?_
  show (wbMarks rows m round).length - wbPeriod rows ≤ 136
  rw [wbMarks_len]
  omega
end K17
/-! what stands in a set of sizes -/
namespace K17
theorem mem_filt (p : Nat → Bool) (n x : Nat) (h : x < n) : decide (x ∈ (List.range n).filter p) = p x := by
  apply Bool.eq_iff_iff.mpr
  rw [decide_eq_true_eq, List.mem_filter, List.mem_range]
  exact ⟨fun z => z.2, fun z => ⟨h, z⟩⟩
theorem mem_fromM {m : List Bool} {p n : Nat} (h0 : 0 < p) : (fromM m p).mem n = m.getD (if n < m.length - p then n else m.length - p + (n - (m.length - p)) % p) false := by
  unfold Fm.mem fromM
  simp only
  split
  · rename_i h
    rw [mem_filt _ _ _ h]
  · rw [mem_filt _ _ _ (Nat.mod_lt _ h0)]
theorem mem_per {f : Fm} {n m : Nat} (h1 : f.start ≤ n) (h2 : f.start ≤ m) (h : (n - f.start) % f.period = (m - f.start) % f.period) : f.mem n = f.mem m := by
  unfold Fm.mem
  rw [if_neg (by omega), if_neg (by omega), h]
theorem mod_same {p q a b : Nat} (hq : q ∣ p) (h : a % p = b % p) : a % q = b % q := by
  rw [← Nat.mod_mod_of_dvd a hq, ← Nat.mod_mod_of_dvd b hq, h]
/-- the point at which the marks tell n -/
theorem mem_far {f : Fm} {s p n : Nat} (hs : f.start ≤ s) (hp : f.period ∣ p) : f.mem (if n < s then n else s + (n - s) % p) = f.mem n := by
  split
  · rfl
  · rename_i h
    refine mem_per (by omega) (by omega) ?_
    refine mod_same hp ?_
    rw [show s + (n - s) % p - f.start = (n - s) % p + (s - f.start) by omega, show n - f.start = (n - s) + (s - f.start) by omega, Nat.mod_add_mod]
theorem mem_setForm {op : Bool → Bool → Bool} {f g : Fm} {n : Nat} (hf : 0 < f.period) (hg : 0 < g.period) : (setForm op f g).mem n = op (f.mem n) (g.mem n) := by
  have hl : 0 < Nat.lcm f.period g.period := Nat.lcm_pos hf hg
  unfold setForm
  simp only
  rw [mem_fromM hl]
  have e : ((List.range (max f.start g.start + Nat.lcm f.period g.period)).map fun n => op (f.mem n) (g.mem n)).length - Nat.lcm f.period g.period = max f.start g.start := by
    rw [List.length_map, List.length_range]
    omega
  rw [e]
  have hlt : (if n < max f.start g.start then n else max f.start g.start + (n - max f.start g.start) % Nat.lcm f.period g.period) < max f.start g.start + Nat.lcm f.period g.period := by
    have := Nat.mod_lt (n - max f.start g.start) hl
    split <;> omega
  rw [List.getD_eq_getElem?_getD, List.getElem?_map, List.getElem?_range hlt]
  show op (f.mem _) (g.mem _) = _
  rw [mem_far (Nat.le_max_left _ _) (Nat.dvd_lcm_left _ _), mem_far (Nat.le_max_right _ _) (Nat.dvd_lcm_right _ _)]
/-! the least form tells the same set -/
theorem rot_get {m : List Bool} {p : Nat} (h : m.drop p ++ m.take p = m) (i : Nat) (hi : i + p < m.length) : m.getD (i + p) false = m.getD i false := by
  have e : (m.drop p ++ m.take p).getD i false = m.getD i false := by rw [h]
  rw [← e, List.getD_eq_getElem?_getD, List.getD_eq_getElem?_getD, List.getElem?_append_left (by rw [List.length_drop]; omega), List.getElem?_drop, Nat.add_comm p i]
theorem rot_mod {m : List Bool} {p : Nat} (hp : 0 < p) (h : m.drop p ++ m.take p = m) : ∀ i : Nat, i < m.length → m.getD i false = m.getD (i % p) false := by
  intro i
  induction i using Nat.strongRecOn with
  | ind i ih =>
    intro hi
    by_cases q : i < p
    · rw [Nat.mod_eq_of_lt q]
    · have e : m.getD i false = m.getD (i - p) false := by
        have := rot_get h (i - p) (by omega)
        rwa [Nat.sub_add_cancel (by omega)] at this
      rw [e, ih (i - p) (by omega) (by omega)]
      congr 1
      conv => rhs; rw [show i = i - p + p by omega, Nat.add_mod_right]
def memW (early : List Nat) (s : Nat) (m : List Bool) (n : Nat) : Bool := if n < s then decide (n ∈ early) else m.getD ((n - s) % m.length) false
theorem memW_step {early : List Nat} {s : Nat} {m : List Bool} (hm : m ≠ []) (h : decide (s ∈ early) = m.getLastD false) (n : Nat) : memW early s (m.getLastD false :: m.dropLast) n = memW early (s + 1) m n := by
  have hl := List.length_pos_iff.mpr hm
  have hlen : (m.getLastD false :: m.dropLast).length = m.length := by
    rw [List.length_cons, List.length_dropLast]
    omega
  have hlast : m.getLastD false = m.getD (m.length - 1) false := by
    rw [List.getLastD_eq_getLast?, List.getLast?_eq_getElem?, List.getD_eq_getElem?_getD]
  unfold memW
  rw [hlen]
  by_cases h1 : n < s
  · rw [if_pos h1, if_pos (by omega)]
  · rw [if_neg h1]
    by_cases h2 : n = s
    · subst h2
      rw [if_pos (Nat.lt_succ_self _), Nat.sub_self, Nat.zero_mod, h]
      rfl
    · rw [if_neg (by omega)]
      obtain ⟨k, hk⟩ : ∃ k, n - s = k + 1 := ⟨n - s - 1, by omega⟩
      rw [show n - (s + 1) = k by omega, hk]
      by_cases h3 : k % m.length = m.length - 1
      · have e : (k + 1) % m.length = 0 := by
          rw [← Nat.mod_add_mod, h3, Nat.sub_add_cancel hl, Nat.mod_self]
        rw [e, h3, ← hlast]
        rfl
      · have hlt := Nat.mod_lt k hl
        have e : (k + 1) % m.length = k % m.length + 1 := by
          rw [← Nat.mod_add_mod, Nat.mod_eq_of_lt (by omega)]
        rw [e, List.getD_cons_succ]
        rw [List.getD_eq_getElem?_getD, List.getD_eq_getElem?_getD, List.getElem?_dropLast, if_pos (by omega)]
theorem walkB_mem {early : List Nat} : ∀ (s : Nat) (m : List Bool), m ≠ [] → ∀ n, memW early (walkB early s m).1 (walkB early s m).2 n = memW early s m n
  | 0, m, _, n => rfl
  | s + 1, m, hm, n => by
    unfold walkB
    split
    · rename_i h
      rw [walkB_mem s _ (by simp) n]
      exact memW_step hm h n
    · rfl
theorem mem_memW {f : Fm} (h : 0 < f.period) (n : Nat) : f.mem n = memW f.early f.start (marksL f) n := by
  unfold Fm.mem memW
  rw [marksL_len]
  split
  · rfl
  · unfold marksL
    rw [List.getD_eq_getElem?_getD, List.getElem?_map, List.getElem?_range (Nat.mod_lt _ h)]
    rfl
theorem mem_least {f : Fm} (h : 0 < f.period) (n : Nat) : f.least.mem n = f.mem n := by
  obtain ⟨a, b, g⟩ := leastP_spec (marksL_ne h)
  unfold goodP at g
  rw [Bool.and_eq_true, decide_eq_true_eq, decide_eq_true_eq, marksL_len] at g
  have b' : leastP (marksL f) ≤ f.period := by rw [← marksL_len f]; exact b
  have hlen : ((marksL f).take (leastP (marksL f))).length = leastP (marksL f) := by
    rw [List.length_take]
    exact Nat.min_eq_left b
  have hne : (marksL f).take (leastP (marksL f)) ≠ [] := by
    intro e
    rw [e] at hlen
    simp at hlen
    omega
  rw [mem_memW h]
  have e1 : memW f.early f.start (marksL f) n = memW f.early f.start ((marksL f).take (leastP (marksL f))) n := by
    unfold memW
    split
    · rfl
    · rw [hlen, marksL_len]
      have hm1 := Nat.mod_lt (n - f.start) h
      rw [rot_mod a g.2 _ (by rw [marksL_len]; exact hm1), Nat.mod_mod_of_dvd _ (Nat.dvd_of_mod_eq_zero g.1)]
      have hm2 := Nat.mod_lt (n - f.start) a
      rw [List.getD_eq_getElem?_getD, List.getD_eq_getElem?_getD, List.getElem?_take, if_pos hm2]
  rw [e1, ← walkB_mem _ _ hne]
  have hl2 : (walkB f.early f.start ((marksL f).take (leastP (marksL f)))).2.length = leastP (marksL f) := by
    rw [(walkB_le _ _ _).2 hne, hlen]
  unfold Fm.mem memW Fm.least
  simp only
  rw [hl2]
  split
  · rename_i h1
    apply Bool.eq_iff_iff.mpr
    rw [decide_eq_true_eq, decide_eq_true_eq, List.mem_filter, decide_eq_true_eq]
    exact ⟨fun z => z.1, fun z => ⟨z, h1⟩⟩
  · rw [mem_filt _ _ _ (Nat.mod_lt _ a)]
theorem mem_and {f g : Fm} (hf : 0 < f.period) (hg : 0 < g.period) (n : Nat) : (sAnd f g).mem n = (f.mem n && g.mem n) := by
  unfold sAnd
  rw [mem_least (by rw [(setForm_len _ _ _).2]; exact Nat.lcm_pos hf hg), mem_setForm hf hg]
  rfl
theorem mem_sub {f g : Fm} (hf : 0 < f.period) (hg : 0 < g.period) (n : Nat) : (sSub f g).mem n = (f.mem n && !g.mem n) := by
  unfold sSub
  rw [mem_least (by rw [(setForm_len _ _ _).2]; exact Nat.lcm_pos hf hg), mem_setForm hf hg]
  rfl
theorem mem_fromOn (m n : Nat) : (fromOn m).mem n = decide (m ≤ n) := by
  unfold fromOn
  rw [mem_least Nat.one_pos]
  unfold Fm.mem
  simp only
  split
  · rename_i h
    rw [decide_eq_false (by simp), decide_eq_false (by omega)]
  · rename_i h
    rw [Nat.mod_one, decide_eq_true (by simp), decide_eq_true (by omega)]
theorem mem_divs {d t : Nat} (h : 0 < t) (n : Nat) : (divs d t).mem n = decide (((n : Int) - d) % t = 0) := by
  unfold divs
  rw [mem_least h]
  unfold Fm.mem
  simp only
  rw [if_neg (by omega), mem_filt _ _ _ (Nat.mod_lt _ h), Nat.sub_zero]
  apply decide_eq_decide.mpr
  rw [Int.natCast_emod, Int.emod_sub_emod]
theorem mem_fitF {r : Rw} (h : r.Ok) (n : Nat) : (fitF r).mem n = decide (r.fits n) := by
  unfold fitF
  rw [mem_and (fromOn_B (s := 1000) (Nat.le_trans h.nd (by decide)) (Nat.le_trans h.nd (by decide))).wf.p0 (divs_B (s := 0) h.gr0 (gr_d4 h)).wf.p0, mem_fromOn, mem_divs h.gr0]
  apply Bool.eq_iff_iff.mpr
  rw [Bool.and_eq_true, decide_eq_true_eq, decide_eq_true_eq, decide_eq_true_eq]
  show _ ↔ r.need ≤ n ∧ (n - r.need) % r.gr = 0
  constructor
  · rintro ⟨h1, h2⟩
    refine ⟨h1, ?_⟩
    rw [show (n : Int) - (r.need : Int) = ((n - r.need : Nat) : Int) by omega, ← Int.natCast_emod] at h2
    omega
  · rintro ⟨h1, h2⟩
    refine ⟨h1, ?_⟩
    rw [show (n : Int) - (r.need : Int) = ((n - r.need : Nat) : Int) by omega, ← Int.natCast_emod, h2]
    rfl
theorem mem_wfA : ∀ (rows : List Rw) (f : Fm) (n : Nat), (∀ r ∈ rows, r.Ok) → f.B 16 → (wfA rows f).mem n = (f.mem n && decide (∀ r ∈ rows, r.fits n))
  | [], f, n, _, _ => by
    show f.mem n = _
    rw [decide_eq_true (by simp), Bool.and_true]
  | r :: rows, f, n, ho, h => by
    have h1 := ho r (List.mem_cons_self ..)
    show (wfA rows (sAnd f (fitF r))).mem n = _
    rw [mem_wfA rows (sAnd f (fitF r)) n (fun x hx => ho x (List.mem_cons_of_mem _ hx)) (setForm_B h (fitF_B h1) (by decide)), mem_and h.wf.p0 (fitF_B h1).wf.p0, mem_fitF h1, Bool.and_assoc]
    congr 1
    apply Bool.eq_iff_iff.mpr
    simp
theorem mem_whereFits {rows : List Rw} (h : RowsOk rows) (n : Nat) : (whereFits rows).mem n = decide (∀ r ∈ rows, r.fits n) := by
  show (wfA rows allF).mem n = _
  rw [mem_wfA rows _ n h.ok allF_B, allF_eq]
  have e : (⟨[], 0, 1, [0]⟩ : Fm).mem n = true := by
    unfold Fm.mem
    simp only
    rw [if_neg (by omega), Nat.mod_one]
    rfl
  rw [e, Bool.true_and]
theorem some_iff {f : Fm} (h : f.Wf) : f.some = true ↔ ∃ n, f.mem n = true := by
  unfold Fm.some
  rw [Bool.or_eq_true, Bool.not_eq_true', Bool.not_eq_true']
  constructor
  · rintro (e | e)
    · cases q : f.early with
      | nil => rw [q] at e; cases e
      | cons x l =>
        have hx : x ∈ f.early := by rw [q]; exact List.mem_cons_self ..
        refine ⟨x, ?_⟩
        unfold Fm.mem
        rw [if_pos (h.e2 x hx)]
        exact decide_eq_true hx
    · cases q : f.later with
      | nil => rw [q] at e; cases e
      | cons x l =>
        have hx : x ∈ f.later := by rw [q]; exact List.mem_cons_self ..
        refine ⟨f.start + x, ?_⟩
        unfold Fm.mem
        rw [if_neg (by omega), Nat.add_sub_cancel_left, Nat.mod_eq_of_lt (h.l2 x hx)]
        exact decide_eq_true hx
  · rintro ⟨n, hn⟩
    unfold Fm.mem at hn
    split at hn
    · left
      cases q : f.early with
      | nil => rw [q] at hn; simp at hn
      | cons x l => rfl
    · right
      cases q : f.later with
      | nil => rw [q] at hn; simp at hn
      | cons x l => rfl
theorem within_iff {f g : Fm} {s : Nat} (hf : f.B s) (hg : g.B s) (hs : s ≤ 1900) : within f g = true ↔ ∀ n, f.mem n = true → g.mem n = true := by
  have hb : (sSub f g).B s := setForm_B hf hg hs
  unfold within
  rw [Bool.not_eq_true']
  constructor
  · intro h n hn
    cases q : g.mem n with
    | true => rfl
    | false =>
      have : (sSub f g).some = true := (some_iff hb.wf).mpr ⟨n, by rw [mem_sub hf.wf.p0 hg.wf.p0, hn, q]; rfl⟩
      rw [h] at this
      cases this
  · intro h
    cases q : (sSub f g).some with
    | false => rfl
    | true =>
      obtain ⟨n, hn⟩ := (some_iff hb.wf).mp q
      rw [mem_sub hf.wf.p0 hg.wf.p0, Bool.and_eq_true] at hn
      rw [h n hn.1] at hn
      exact absurd hn.2 (by decide)
end K17
/-! what the law draws -/
namespace K17
def lawNum (ns : List Int) (i : Nat) : Int :=
  if ns = [] then ((i : Int) * 48271 + 12345) % 2147483647
  else
    let c := ns.getD (i % ns.length) 0
    let c2 := if ((c.natAbs : Int) ≥ 10 ^ 60) then c % 10 ^ 18 else c
    let b := ((c2 + 977 * (i : Int)) * 48271 + 31 * (ns.length : Int)) % 2147483647
    (b * 69621 % 2147483629 * 16807 + (i : Int)) % 2147483587
def lawTake (ns : List Int) (k m : Nat) : Nat := (lawNum ns k % (m : Int)).toNat
theorem lawTake_lt {ns : List Int} {k m : Nat} (h : 0 < m) : lawTake ns k m < m := by
  unfold lawTake
  have h1 := Int.emod_lt_of_pos (lawNum ns k) (show (0 : Int) < (m : Int) by omega)
  have h2 := Int.emod_nonneg (lawNum ns k) (show (m : Int) ≠ 0 by omega)
  omega
def beforeL : List Wd := [[], [.k], [.c2f], [.k, .p]]
def afterL : List Wd := [[], [.k], [.c2b]]
def groupL : List Wd := [[.c2f], [.c2b], [.k, .p], [.c4f], [.c2f, .k, .k], [.k, .c2b, .p], [.c2f, .c2b], [.p, .k]]
def lawRow (ns : List Int) (k : Nat) : Rw := ⟨beforeL.getD (lawTake ns (k + 1) 4) [], groupL.getD (lawTake ns (k + 3) 8) [], afterL.getD (lawTake ns (k + 2) 3) []⟩
def lawCnt (ns : List Int) (k : Nat) : Nat := 1 + lawTake ns (k + 1) 3
def lawRows (ns : List Int) (k : Nat) : List Rw := (List.range (lawCnt ns k)).map fun i => lawRow ns (k + 1 + 3 * i)
theorem getD_mem {l : List Wd} {i : Nat} (h : i < l.length) : l.getD i [] ∈ l := by
  rw [List.getD_eq_getElem?_getD, List.getElem?_eq_getElem h]
  exact List.getElem_mem h
theorem law_b (ns : List Int) (k : Nat) : (lawRow ns k).b ∈ beforeL := getD_mem (lawTake_lt (by decide))
theorem law_g (ns : List Int) (k : Nat) : (lawRow ns k).g ∈ groupL := getD_mem (lawTake_lt (by decide))
theorem law_a (ns : List Int) (k : Nat) : (lawRow ns k).a ∈ afterL := getD_mem (lawTake_lt (by decide))
theorem before_all : ∀ w ∈ beforeL, w.length ≤ 2 ∧ tkW w ≤ 2 := by decide
theorem after_all : ∀ w ∈ afterL, w.length ≤ 2 ∧ tkW w ≤ 2 := by decide
theorem group_all : ∀ w ∈ groupL, w ≠ [] ∧ w.length ≤ 3 ∧ (tkW w = 2 ∨ tkW w = 4) := by decide
theorem lawRow_ok (ns : List Int) (k : Nat) : (lawRow ns k).Ok := by
  obtain ⟨b1, b2⟩ := before_all _ (law_b ns k)
  obtain ⟨a1, a2⟩ := after_all _ (law_a ns k)
  obtain ⟨g1, g2, g3⟩ := group_all _ (law_g ns k)
  refine ⟨g1, by omega, by omega, by omega, ?_, g3⟩
  unfold Rw.need
  omega
theorem lawCnt_le (ns : List Int) (k : Nat) : 1 ≤ lawCnt ns k ∧ lawCnt ns k ≤ 3 := by
  unfold lawCnt
  have := lawTake_lt (ns := ns) (k := k + 1) (m := 3) (by decide)
  omega
theorem lawRows_len (ns : List Int) (k : Nat) : (lawRows ns k).length = lawCnt ns k := by
  unfold lawRows
  rw [List.length_map, List.length_range]
theorem lawRows_ok (ns : List Int) (k : Nat) : RowsOk (lawRows ns k) := by
  obtain ⟨h1, h2⟩ := lawCnt_le ns k
  refine ⟨fun r hr => ?_, by rw [lawRows_len]; exact h1, by rw [lawRows_len]; omega⟩
  obtain ⟨i, _, e⟩ := List.mem_map.mp hr
  rw [← e]
  exact lawRow_ok ns _
end K17
/-! the law's algebra: the same row twice, other hands -/
namespace K17
/-! the other hand sends alike -/
theorem oh_tk (k : Kd) : k.oh.tk = k.tk := by cases k <;> rfl
theorem tkW_oh (w : Wd) : tkW (w.map Kd.oh) = tkW w := by
  unfold tkW
  rw [List.map_map]
  congr 1
  apply List.map_congr_left
  intro k _
  exact oh_tk k
/-- what a row asks of the loops alone -/
structure Rw.Like (r s : Rw) : Prop where
  b : r.b.map Kd.tk = s.b.map Kd.tk
  g : r.g.map Kd.tk = s.g.map Kd.tk
  a : r.a.map Kd.tk = s.a.map Kd.tk
theorem tkA_like : ∀ (v w : Wd) (acc : List Nat), v.map Kd.tk = w.map Kd.tk → tkA v acc = tkA w acc
  | [], [], _, _ => rfl
  | [], _ :: _, _, h => by cases h
  | _ :: _, [], _, h => by cases h
  | x :: v, y :: w, acc, h => by
    rw [List.map_cons, List.map_cons] at h
    injection h with h1 h2
    show tkA v (acc ++ blk acc.length x.tk) = tkA w (acc ++ blk acc.length y.tk)
    rw [h1]
    exact tkA_like v w _ h2
theorem sentBy_like {v w : Wd} (h : v.map Kd.tk = w.map Kd.tk) : sentBy v = sentBy w := tkA_like v w [] h
namespace Rw.Like
variable {r s : Rw}
theorem need (h : r.Like s) : r.need = s.need := by
  unfold Rw.need tkW
  rw [h.b, h.a]
theorem gr (h : r.Like s) : r.gr = s.gr := by
  unfold Rw.gr tkW
  rw [h.g]
theorem fits (h : r.Like s) (n : Nat) : r.fits n ↔ s.fits n := by
  unfold Rw.fits
  rw [h.need, h.gr]
theorem turns (h : r.Like s) (n : Nat) : r.turns n = s.turns n := by
  unfold Rw.turns
  rw [h.need, h.gr]
theorem work (h : r.Like s) (n : Nat) : (r.work n).map Kd.tk = (s.work n).map Kd.tk := by
  unfold Rw.work
  rw [List.map_append, List.map_append, List.map_append, List.map_append, h.b, h.a, List.map_flatten, List.map_flatten, List.map_replicate, List.map_replicate, h.g, h.turns]
theorem back (h : r.Like s) : r.back.Like s.back := by
  have e : ∀ w : Wd, (bkW w).map Kd.tk = (w.map Kd.tk).reverse := fun w => by
    unfold bkW
    rw [List.map_map, ← List.map_reverse]
    apply List.map_congr_left
    intro k _
    exact bk_tk k
  refine ⟨?_, ?_, ?_⟩
  · show (bkW r.a).map Kd.tk = (bkW s.a).map Kd.tk
    rw [e, e, h.a]
  · show (bkW r.g).map Kd.tk = (bkW s.g).map Kd.tk
    rw [e, e, h.g]
  · show (bkW r.b).map Kd.tk = (bkW s.b).map Kd.tk
    rw [e, e, h.b]
end Rw.Like
theorem like_oh (r : Rw) : r.oh.Like r := by
  have e : ∀ w : Wd, (w.map Kd.oh).map Kd.tk = w.map Kd.tk := fun w => by
    rw [List.map_map]
    apply List.map_congr_left
    intro k _
    exact oh_tk k
  exact ⟨e _, e _, e _⟩
/-- lists of rows, row by row alike -/
def LikeL (a b : List Rw) : Prop := a.length = b.length ∧ ∀ (i : Nat) (r s : Rw), a[i]? = some r → b[i]? = some s → r.Like s
theorem likeL_oh (rows : List Rw) : LikeL (rows.map Rw.oh) rows := by
  refine ⟨List.length_map .., fun i r s h1 h2 => ?_⟩
  rw [List.getElem?_map, h2] at h1
  cases h1
  exact like_oh s
theorem LikeL.cons_inv {r s : Rw} {a b : List Rw} (h : LikeL (r :: a) (s :: b)) : r.Like s ∧ LikeL a b :=
  ⟨h.2 0 r s rfl rfl, Nat.succ.inj h.1, fun i x y h1 h2 => h.2 (i + 1) x y h1 h2⟩
theorem LikeL.app {a b c d : List Rw} (h : LikeL a b) (h2 : LikeL c d) : LikeL (a ++ c) (b ++ d) := by
  refine ⟨by rw [List.length_append, List.length_append, h.1, h2.1], fun i r s e1 e2 => ?_⟩
  by_cases q : i < a.length
  · rw [List.getElem?_append_left q] at e1
    rw [List.getElem?_append_left (by rw [← h.1]; exact q)] at e2
    exact h.2 i r s e1 e2
  · rw [List.getElem?_append_right (by omega)] at e1
    rw [List.getElem?_append_right (by rw [← h.1]; omega), ← h.1] at e2
    exact h2.2 _ r s e1 e2
theorem LikeL.alt {a b : List Rw} (h : LikeL a b) : LikeL (alt a) (alt b) := by
  refine ⟨by unfold K17.alt; rw [List.length_mapIdx, List.length_mapIdx, h.1], fun i r s e1 e2 => ?_⟩
  unfold K17.alt at e1 e2
  rw [List.getElem?_mapIdx] at e1 e2
  cases q1 : a[i]? with
  | none => rw [q1] at e1; cases e1
  | some x =>
    cases q2 : b[i]? with
    | none => rw [q2] at e2; cases e2
    | some y =>
      rw [q1] at e1
      rw [q2] at e2
      have l := h.2 i x y q1 q2
      cases e1
      cases e2
      split
      · exact l.back
      · exact l
theorem LikeL.round {a b : List Rw} (h : LikeL a b) (r : Bool) : LikeL (roundOf a r) (roundOf b r) := by
  unfold roundOf
  cases r with
  | true => exact h
  | false =>
    simp only [Bool.false_eq_true, if_false]
    rw [h.1]
    split
    · exact h.alt
    · exact (h.app h).alt
theorem sentR_like {n : Nat} : ∀ (a b : List Rw) (acc : List Nat), LikeL a b → sentR a n acc = sentR b n acc
  | [], [], _, _ => rfl
  | [], _ :: _, _, h => by cases h.1
  | _ :: _, [], _, h => by cases h.1
  | r :: a, s :: b, acc, h => by
    obtain ⟨h1, h2⟩ := h.cons_inv
    show sentR a n (move (sentBy (r.work n)) acc) = sentR b n (move (sentBy (s.work n)) acc)
    rw [sentBy_like (h1.work n)]
    exact sentR_like a b _ h2
theorem sentRound_like {a b : List Rw} (h : LikeL a b) (n : Nat) : sentRound a n = sentRound b n := sentR_like a b _ h
theorem fold_like {α : Type} (f : α → Rw → α) (hf : ∀ x r s, r.Like s → f x r = f x s) : ∀ (a b : List Rw) (x : α), LikeL a b → a.foldl f x = b.foldl f x
  | [], [], _, _ => rfl
  | [], _ :: _, _, h => by cases h.1
  | _ :: _, [], _, h => by cases h.1
  | r :: a, s :: b, x, h => by
    obtain ⟨h1, h2⟩ := h.cons_inv
    rw [List.foldl_cons, List.foldl_cons, hf x r s h1]
    exact fold_like f hf a b _ h2
theorem whereFits_like {a b : List Rw} (h : LikeL a b) : whereFits a = whereFits b := fold_like _ (fun x r s l => by
  show sAnd x (fitF r) = sAnd x (fitF s)
  unfold fitF
  rw [l.need, l.gr]) a b _ h
theorem shared_like {a b : List Rw} (h : LikeL a b) : shared a = shared b := fold_like _ (fun x r s l => by
  show Nat.lcm x r.gr = Nat.lcm x s.gr
  rw [l.gr]) a b _ h
theorem ends_like {a b : List Rw} (h : LikeL a b) : ends a = ends b := fold_like _ (fun x r s l => by
  show max x r.need = max x s.need
  rw [l.need]) a b _ h
theorem whereBack_like {a b : List Rw} (h : LikeL a b) (m : Nat) (r : Bool) : whereBack a m r = whereBack b m r := by
  have h1 := whereFits_like h
  have h2 := shared_like h
  have h3 := ends_like h
  have h4 := (h.round r).1
  have e1 : wbPeriod a = wbPeriod b := by
    unfold wbPeriod
    rw [h1, h2]
  have e2 : wbStart a m r = wbStart b m r := by
    unfold wbStart
    rw [h1, h3, h4, e1]
  have e3 : wbMarks a m r = wbMarks b m r := by
    unfold wbMarks
    rw [h1, e1, e2]
    apply List.map_congr_left
    intro n _
    rw [sentRound_like (h.round r) n]
  unfold whereBack
  rw [e1, e3]
theorem oh_rowsOk {rows : List Rw} (h : RowsOk rows) : RowsOk (rows.map Rw.oh) := by
  refine ⟨fun r hr => ?_, by rw [List.length_map]; exact h.l0, by rw [List.length_map]; exact h.l1⟩
  obtain ⟨s, hs, rfl⟩ := List.mem_map.mp hr
  have o := h.ok s hs
  have l := like_oh s
  refine ⟨fun e => o.g0 (List.map_eq_nil_iff.mp e), ?_, ?_, ?_, by rw [l.need]; exact o.nd, by rw [l.gr]; exact o.gs⟩
  · show (s.b.map Kd.oh).length ≤ 60
    rw [List.length_map]; exact o.lb
  · show (s.g.map Kd.oh).length ≤ 30
    rw [List.length_map]; exact o.lg
  · show (s.a.map Kd.oh).length ≤ 60
    rw [List.length_map]; exact o.la
theorem oh_fits {rows : List Rw} {n : Nat} (h : ∀ r ∈ rows, r.fits n) : ∀ r ∈ rows.map Rw.oh, r.fits n := fun r hr => by
  obtain ⟨s, hs, rfl⟩ := List.mem_map.mp hr
  exact ((like_oh s).fits n).mpr (h s hs)
/-! composition -/
theorem move_lt {places found : List Nat} {n : Nat} (h : places.Perm (List.range n)) (h2 : ∀ x ∈ found, x < n) : ∀ x ∈ move places found, x < n := fun x hx => by
  obtain ⟨p, hp, rfl⟩ := List.mem_map.mp hx
  have := h2 p hp
  rw [List.getD_eq_getElem?_getD, List.getElem?_eq_getElem (by rw [perm_len h]; exact this)]
  exact perm_lt h _ (List.getElem_mem _)
theorem move_move {a b c : List Nat} {n : Nat} (hb : b.length = n) (hc : ∀ x ∈ c, x < n) : move a (move b c) = move (move a b) c := by
  unfold move
  rw [List.map_map]
  apply List.map_congr_left
  intro x hx
  have := hc x hx
  show a.getD (b.getD x 0) 0 = (b.map fun p => a.getD p 0).getD x 0
  rw [List.getD_eq_getElem?_getD (l := b.map _), List.getElem?_map, List.getElem?_eq_getElem (by omega)]
  rw [List.getD_eq_getElem?_getD (l := b), List.getElem?_eq_getElem (by omega)]
  rfl
theorem move_range {found : List Nat} {n : Nat} (h : ∀ x ∈ found, x < n) : move (List.range n) found = found := by
  unfold move
  conv => rhs; rw [← List.map_id found]
  apply List.map_congr_left
  intro x hx
  rw [List.getD_eq_getElem?_getD, List.getElem?_range (h x hx)]
  rfl
theorem range_move {places : List Nat} {n : Nat} (h : places.length = n) : move places (List.range n) = places := by
  unfold move
  rw [← h]
  exact getD_range
theorem sentR_move {n : Nat} : ∀ (rows : List Rw) (acc : List Nat), FitAll rows n → (∀ x ∈ acc, x < n) → sentR rows n acc = move (sentRound rows n) acc := by
  have g : ∀ (rows : List Rw) (acc base : List Nat), FitAll rows n → base.Perm (List.range n) → (∀ x ∈ acc, x < n) → sentR rows n (move base acc) = move (sentR rows n base) acc := by
    intro rows
    induction rows with
    | nil => intro acc base _ _ _; rfl
    | cons r rows ih =>
      intro acc base hf hb ha
      obtain ⟨h1, h2⟩ := hf r (List.mem_cons_self ..)
      have hp := sentBy_perm (r.work n)
      rw [work_tk h1 h2] at hp
      show sentR rows n (move (sentBy (r.work n)) (move base acc)) = move (sentR rows n (move (sentBy (r.work n)) base)) acc
      rw [move_move (perm_len hb) ha]
      exact ih acc _ (fun x hx => hf x (List.mem_cons_of_mem _ hx)) (move_perm hp hb) ha
  intro rows acc hf ha
  have := g rows acc (List.range n) hf (List.Perm.refl _) ha
  rw [move_range ha] at this
  exact this
theorem sentRound_app {a b : List Rw} {n : Nat} (ha : FitAll a n) (hb : FitAll b n) : sentRound (a ++ b) n = move (sentRound b n) (sentRound a n) := by
  have e : sentRound (a ++ b) n = sentR b n (sentRound a n) := by
    unfold sentRound sentR
    rw [List.foldl_append]
  rw [e]
  exact sentR_move b _ hb (perm_lt (sentRound_perm ha))
theorem alt_app {a b : List Rw} (h : a.length % 2 = 0) : alt (a ++ b) = alt a ++ alt b := by
  unfold alt
  rw [List.mapIdx_append]
  congr 1
  apply List.ext_getElem?
  intro i
  rw [List.getElem?_mapIdx, List.getElem?_mapIdx]
  have e : (i + a.length) % 2 = i % 2 := by omega
  simp only [e]
theorem twice_due {rows : List Rw} {n : Nat} {b : Bool} (h : RowsOk rows) (hf : ∀ r ∈ rows, r.fits n) :
    sentRound (roundOf (rows ++ rows) b) n = if b = true ∨ rows.length % 2 = 0 then move (sentRound (roundOf rows b) n) (sentRound (roundOf rows b) n) else sentRound (roundOf rows b) n := by
  have hfa := fitAll_round (b := b) h hf
  cases b with
  | true =>
    rw [if_pos (.inl rfl)]
    exact sentRound_app hfa hfa
  | false =>
    have e2 : roundOf (rows ++ rows) false = alt (rows ++ rows) := by
      unfold roundOf
      simp only [Bool.false_eq_true, if_false]
      rw [if_pos (by rw [List.length_append]; omega)]
    rw [e2]
    by_cases q : rows.length % 2 = 0
    · rw [if_pos (.inr q)]
      have e1 : roundOf rows false = alt rows := by
        unfold roundOf
        simp only [Bool.false_eq_true, if_false]
        rw [if_pos q]
      rw [e1] at hfa ⊢
      rw [alt_app q]
      exact sentRound_app hfa hfa
    · rw [if_neg (fun z => by rcases z with z | z; cases z; exact q z)]
      have e1 : roundOf rows false = alt (rows ++ rows) := by
        unfold roundOf
        simp only [Bool.false_eq_true, if_false]
        rw [if_neg q]
      rw [e1]
theorem app_rowsOk {rows : List Rw} (h : RowsOk rows) (hl : rows.length ≤ 3) : RowsOk (rows ++ rows) := by
  have := h.l0
  refine ⟨fun r hr => ?_, by rw [List.length_append]; omega, by rw [List.length_append]; omega⟩
  rcases List.mem_append.mp hr with z | z <;> exact h.ok r z
theorem app_fits {rows : List Rw} {n : Nat} (h : ∀ r ∈ rows, r.fits n) : ∀ r ∈ rows ++ rows, r.fits n := fun r hr => by
  rcases List.mem_append.mp hr with z | z <;> exact h r z
/-! powers -/
theorem sentMany_add {p : List Nat} {n : Nat} (h : p.Perm (List.range n)) : ∀ a b : Nat, sentMany p (a + b) = move (sentMany p a) (sentMany p b)
  | 0, b => by
    rw [Nat.zero_add]
    show _ = move (List.range p.length) (sentMany p b)
    rw [perm_len h, move_range (perm_lt (sentMany_perm h b))]
  | a + 1, b => by
    rw [Nat.succ_add]
    show move p (sentMany p (a + b)) = move (move p (sentMany p a)) (sentMany p b)
    rw [sentMany_add h a b, move_move (perm_len (sentMany_perm h a)) (perm_lt (sentMany_perm h b))]
theorem isBack_iff {p : List Nat} {n m : Nat} (h : p.Perm (List.range n)) : isBack p m = true ↔ sentMany p m = List.range n := by
  unfold isBack
  rw [decide_eq_true_eq, perm_len h]
theorem back_add {p : List Nat} {n a b : Nat} (h : p.Perm (List.range n)) (ha : isBack p a = true) : isBack p (a + b) = isBack p b := by
  rw [isBack_iff h] at ha
  apply Bool.eq_iff_iff.mpr
  rw [isBack_iff h, isBack_iff h, sentMany_add h, ha, move_range (perm_lt (sentMany_perm h b))]
end K17
/-! locality: the set of the numbers that are back is periodic far out -/
namespace K17
def ap (w : Wd) (x : Nat) : Nat := (sentBy w).getD x 0
theorem blk_shift (c m : Nat) : blk c m = (blk 0 m).map (c + ·) := by
  unfold blk
  rw [List.map_append, List.map_map, List.map_map]
  congr 1
  · apply List.map_congr_left
    intro i _
    show c + m / 2 + i = c + (0 + m / 2 + i)
    omega
  · apply List.map_congr_left
    intro i _
    show c + i = c + (0 + i)
    omega
theorem blk_len (c m : Nat) : (blk c m).length = m := by
  rw [(blk_perm c m).length_eq, List.length_map, List.length_range]
theorem tkA_eq : ∀ (u : Wd) (acc : List Nat), tkA u acc = acc ++ (sentBy u).map (acc.length + ·)
  | [], acc => by
    show acc = acc ++ []
    rw [List.append_nil]
  | k :: u, acc => by
    show tkA u (acc ++ blk acc.length k.tk) = acc ++ (tkA u ([] ++ blk 0 k.tk)).map (acc.length + ·)
    rw [tkA_eq u, tkA_eq u, List.map_append, List.append_assoc, List.nil_append, ← blk_shift, List.map_map]
    congr 2
    apply List.map_congr_left
    intro i _
    show (acc ++ blk acc.length k.tk).length + i = acc.length + ((blk 0 k.tk).length + i)
    rw [List.length_append, blk_len, blk_len]
    omega
theorem sentBy_app (v u : Wd) : sentBy (v ++ u) = sentBy v ++ (sentBy u).map (tkW v + ·) := by
  have e : sentBy (v ++ u) = tkA u (sentBy v) := by
    unfold sentBy tkA
    rw [List.foldl_append]
  rw [e, tkA_eq, sentBy_len]
theorem ap_left {v u : Wd} {x : Nat} (h : x < tkW v) : ap (v ++ u) x = ap v x := by
  unfold ap
  rw [sentBy_app, List.getD_eq_getElem?_getD, List.getD_eq_getElem?_getD, List.getElem?_append_left (by rw [sentBy_len]; exact h)]
theorem ap_right {v u : Wd} {y : Nat} (h : y < tkW u) : ap (v ++ u) (tkW v + y) = tkW v + ap u y := by
  unfold ap
  rw [sentBy_app, List.getD_eq_getElem?_getD, List.getD_eq_getElem?_getD, List.getElem?_append_right (by rw [sentBy_len]; omega), sentBy_len, Nat.add_sub_cancel_left, List.getElem?_map, List.getElem?_eq_getElem (by rw [sentBy_len]; exact h)]
  rfl
theorem ap_lt {w : Wd} {x : Nat} (h : x < tkW w) : ap w x < tkW w := by
  unfold ap
  rw [List.getD_eq_getElem?_getD, List.getElem?_eq_getElem (by rw [sentBy_len]; exact h)]
  exact perm_lt (sentBy_perm w) _ (List.getElem_mem _)
theorem ap_one : ∀ (k : Kd) (x : Nat), x < k.tk → ap [k] x ≤ x + 2 ∧ x ≤ ap [k] x + 2 := by
  intro k
  cases k <;> decide
theorem ap_near : ∀ (w : Wd) (x : Nat), x < tkW w → ap w x ≤ x + 2 ∧ x ≤ ap w x + 2
  | [], x, h => by simp [tkW] at h
  | k :: u, x, h => by
    have e1 : tkW [k] = k.tk := by simp [tkW]
    have e : tkW (k :: u) = k.tk + tkW u := by
      unfold tkW
      rw [List.map_cons, List.sum_cons]
    have ec : k :: u = [k] ++ u := rfl
    by_cases q : x < k.tk
    · rw [ec, ap_left (by rw [e1]; exact q)]
      exact ap_one k x q
    · obtain ⟨y, rfl⟩ : ∃ y, x = k.tk + y := ⟨x - k.tk, by omega⟩
      have hy : y < tkW u := by omega
      have := ap_near u y hy
      rw [ec, ← e1, ap_right hy, e1]
      omega
/-! a row on n and on n + P loops -/
structure RowP (r : Rw) (n P e : Nat) : Prop where
  f : r.fits n
  g : 0 < r.gr
  d : r.gr ∣ P
  e : r.need ≤ e
theorem turns_add {r : Rw} {n P : Nat} (f : r.fits n) (g : 0 < r.gr) (d : r.gr ∣ P) : r.turns (n + P) = r.turns n + P / r.gr := by
  obtain ⟨q, rfl⟩ := d
  unfold Rw.turns
  have h1 := f.1
  rw [show n + r.gr * q - r.need = (n - r.need) + r.gr * q by omega, Nat.add_mul_div_left _ _ g, Nat.mul_div_cancel_left _ g]
theorem fits_add {r : Rw} {n P : Nat} (f : r.fits n) (d : r.gr ∣ P) : r.fits (n + P) := by
  obtain ⟨q, rfl⟩ := d
  refine ⟨Nat.le_trans f.1 (Nat.le_add_right _ _), ?_⟩
  have h1 := f.1
  rw [show n + r.gr * q - r.need = (n - r.need) + r.gr * q by omega, Nat.add_mul_mod_self_left]
  exact f.2
theorem rep_add (g : Wd) (a b : Nat) : (List.replicate (a + b) g).flatten = (List.replicate a g).flatten ++ (List.replicate b g).flatten := by
  rw [← List.replicate_append_replicate, List.flatten_append]
theorem row_left {r : Rw} {n P e x : Nat} (h : RowP r n P e) (hx : x + e < n) : ap (r.work (n + P)) x = ap (r.work n) x := by
  have hw := work_tk h.f h.g
  have he := h.e
  unfold Rw.need at he
  have e1 : r.work n = (r.b ++ (List.replicate (r.turns n) r.g).flatten) ++ r.a := rfl
  have e2 : r.work (n + P) = (r.b ++ (List.replicate (r.turns n) r.g).flatten) ++ ((List.replicate (P / r.gr) r.g).flatten ++ r.a) := by
    unfold Rw.work
    rw [turns_add h.f h.g h.d, rep_add, List.append_assoc, List.append_assoc, List.append_assoc]
  have hv : x < tkW (r.b ++ (List.replicate (r.turns n) r.g).flatten) := by
    rw [e1, tkW_app] at hw
    omega
  rw [e1, e2, ap_left hv, ap_left hv]
theorem row_right {r : Rw} {n P e x : Nat} (h : RowP r n P e) (hx : e ≤ x) (hn : x < n) : ap (r.work (n + P)) (x + P) = ap (r.work n) x + P := by
  have hw := work_tk h.f h.g
  have hw2 := work_tk (fits_add h.f h.d) h.g
  have he := h.e
  unfold Rw.need at he
  have e1 : r.work n = r.b ++ ((List.replicate (r.turns n) r.g).flatten ++ r.a) := by
    unfold Rw.work
    rw [List.append_assoc]
  have e2 : r.work (n + P) = (r.b ++ (List.replicate (P / r.gr) r.g).flatten) ++ ((List.replicate (r.turns n) r.g).flatten ++ r.a) := by
    unfold Rw.work
    rw [turns_add h.f h.g h.d, Nat.add_comm, rep_add, List.append_assoc, List.append_assoc, List.append_assoc]
  generalize hu : (List.replicate (r.turns n) r.g).flatten ++ r.a = u at e1 e2
  generalize hv : r.b ++ (List.replicate (P / r.gr) r.g).flatten = v at e2
  rw [e1, tkW_app] at hw
  rw [e2, tkW_app] at hw2
  obtain ⟨y, rfl⟩ : ∃ y, x = tkW r.b + y := ⟨x - tkW r.b, by omega⟩
  have hy : y < tkW u := by omega
  rw [e1, e2, ap_right hy, show tkW r.b + y + P = tkW v + y by omega, ap_right hy]
  omega
/-! many rows -/
def run (rows : List Rw) (n x : Nat) : Nat := rows.foldl (fun y r => ap (r.work n) y) x
theorem sentR_run {n : Nat} : ∀ (rows : List Rw) (acc : List Nat), sentR rows n acc = acc.map (run rows n)
  | [], acc => by
    show acc = acc.map fun x => x
    rw [List.map_id']
  | r :: rows, acc => by
    show sentR rows n (move (sentBy (r.work n)) acc) = _
    rw [sentR_run rows]
    unfold move
    rw [List.map_map]
    rfl
theorem run_near : ∀ (rows : List Rw) (n P e : Nat), (∀ r ∈ rows, RowP r n P e) → ∀ x, x < n → run rows n x < n ∧ run rows n x ≤ x + 2 * rows.length ∧ x ≤ run rows n x + 2 * rows.length
  | [], n, P, e, _, x, hx => ⟨hx, Nat.le_refl _, Nat.le_refl _⟩
  | r :: rows, n, P, e, h, x, hx => by
    have hr := h r (List.mem_cons_self ..)
    have hw := work_tk hr.f hr.g
    have h1 := ap_near (r.work n) x (by rw [hw]; exact hx)
    have h2 := ap_lt (w := r.work n) (x := x) (by rw [hw]; exact hx)
    rw [hw] at h2
    have h3 := run_near rows n P e (fun s hs => h s (List.mem_cons_of_mem _ hs)) _ h2
    show run rows n (ap (r.work n) x) < n ∧ run rows n (ap (r.work n) x) ≤ x + 2 * (rows.length + 1) ∧ x ≤ run rows n (ap (r.work n) x) + 2 * (rows.length + 1)
    omega
theorem run_left : ∀ (rows : List Rw) (n P e : Nat), (∀ r ∈ rows, RowP r n P e) → ∀ x, x + 2 * rows.length + e < n → run rows (n + P) x = run rows n x
  | [], n, P, e, _, x, _ => rfl
  | r :: rows, n, P, e, h, x, hx => by
    have hr := h r (List.mem_cons_self ..)
    rw [List.length_cons] at hx
    have hw := work_tk hr.f hr.g
    have h1 := ap_near (r.work n) x (by rw [hw]; omega)
    show run rows (n + P) (ap (r.work (n + P)) x) = run rows n (ap (r.work n) x)
    rw [row_left hr (by omega)]
    exact run_left rows n P e (fun s hs => h s (List.mem_cons_of_mem _ hs)) _ (by omega)
theorem run_right : ∀ (rows : List Rw) (n P e : Nat), (∀ r ∈ rows, RowP r n P e) → ∀ x, e + 2 * rows.length ≤ x → x < n → run rows (n + P) (x + P) = run rows n x + P
  | [], n, P, e, _, x, _, _ => rfl
  | r :: rows, n, P, e, h, x, hx, hn => by
    have hr := h r (List.mem_cons_self ..)
    rw [List.length_cons] at hx
    have hw := work_tk hr.f hr.g
    have h1 := ap_near (r.work n) x (by rw [hw]; omega)
    have h2 := ap_lt (w := r.work n) (x := x) (by rw [hw]; exact hn)
    rw [hw] at h2
    show run rows (n + P) (ap (r.work (n + P)) (x + P)) = run rows n (ap (r.work n) x) + P
    rw [row_right hr (by omega) hn]
    exact run_right rows n P e (fun s hs => h s (List.mem_cons_of_mem _ hs)) _ (by omega) h2
/-! many rounds -/
def runM (rows : List Rw) (n : Nat) : Nat → Nat → Nat
  | 0, x => x
  | m + 1, x => run rows n (runM rows n m x)
theorem runM_near {rows : List Rw} {n P e : Nat} (h : ∀ r ∈ rows, RowP r n P e) : ∀ (m x : Nat), x < n → runM rows n m x < n ∧ runM rows n m x ≤ x + 2 * m * rows.length ∧ x ≤ runM rows n m x + 2 * m * rows.length
  | 0, x, hx => ⟨hx, Nat.le_add_right _ _, Nat.le_add_right _ _⟩
  | m + 1, x, hx => by
    obtain ⟨a, b, c⟩ := runM_near h m x hx
    obtain ⟨a', b', c'⟩ := run_near rows n P e h _ a
    show run rows n (runM rows n m x) < n ∧ run rows n (runM rows n m x) ≤ x + 2 * (m + 1) * rows.length ∧ x ≤ run rows n (runM rows n m x) + 2 * (m + 1) * rows.length
    have e1 : 2 * (m + 1) * rows.length = 2 * m * rows.length + 2 * rows.length := by
      rw [Nat.mul_add, Nat.add_mul]
    omega
theorem runM_left {rows : List Rw} {n P e : Nat} (h : ∀ r ∈ rows, RowP r n P e) : ∀ (m x : Nat), x + 2 * m * rows.length + e < n → runM rows (n + P) m x = runM rows n m x
  | 0, x, _ => rfl
  | m + 1, x, hx => by
    have e1 : 2 * (m + 1) * rows.length = 2 * m * rows.length + 2 * rows.length := by
      rw [Nat.mul_add, Nat.add_mul]
    obtain ⟨a, b, c⟩ := runM_near h m x (by omega)
    show run rows (n + P) (runM rows (n + P) m x) = run rows n (runM rows n m x)
    rw [runM_left h m x (by omega)]
    exact run_left rows n P e h _ (by omega)
theorem runM_right {rows : List Rw} {n P e : Nat} (h : ∀ r ∈ rows, RowP r n P e) : ∀ (m x : Nat), e + 2 * m * rows.length ≤ x → x < n → runM rows (n + P) m (x + P) = runM rows n m x + P
  | 0, x, _, _ => rfl
  | m + 1, x, hx, hn => by
    have e1 : 2 * (m + 1) * rows.length = 2 * m * rows.length + 2 * rows.length := by
      rw [Nat.mul_add, Nat.add_mul]
    obtain ⟨a, b, c⟩ := runM_near h m x hn
    show run rows (n + P) (runM rows (n + P) m (x + P)) = run rows n (runM rows n m x) + P
    rw [runM_right h m x (by omega) hn]
    exact run_right rows n P e h _ (by omega) a
theorem sentMany_run {rows : List Rw} {n : Nat} (h : FitAll rows n) : ∀ m : Nat, sentMany (sentRound rows n) m = (List.range n).map (runM rows n m)
  | 0 => by
    show List.range (sentRound rows n).length = (List.range n).map fun x => x
    rw [perm_len (sentRound_perm h), List.map_id']
  | m + 1 => by
    show move (sentRound rows n) (sentMany (sentRound rows n) m) = _
    have hp := sentMany_perm (sentRound_perm h) m
    rw [← sentR_move rows _ h (perm_lt hp), sentR_run, sentMany_run h m, List.map_map]
    rfl
theorem isBack_run {rows : List Rw} {n m : Nat} (h : FitAll rows n) : isBack (sentRound rows n) m = true ↔ ∀ x, x < n → runM rows n m x = x := by
  rw [isBack_iff (sentRound_perm h), sentMany_run h]
  constructor
  · intro e x hx
    have := congrArg (fun l => l[x]?) e
    simp only [List.getElem?_map, List.getElem?_range hx] at this
    exact Option.some.inj this
  · intro e
    conv => rhs; rw [← List.map_id' (List.range n)]
    apply List.map_congr_left
    intro x hx
    exact e x (List.mem_range.mp hx)
theorem back_per {rows : List Rw} {n P e m : Nat} (h : ∀ r ∈ rows, RowP r n P e) (hn : 2 * (2 * m * rows.length + e) + P ≤ n) : isBack (sentRound rows (n + P)) m = isBack (sentRound rows n) m := by
  have f1 : FitAll rows n := fun r hr => ⟨(h r hr).f, (h r hr).g⟩
  have f2 : FitAll rows (n + P) := fun r hr => ⟨fits_add (h r hr).f (h r hr).d, (h r hr).g⟩
  apply Bool.eq_iff_iff.mpr
  rw [isBack_run f1, isBack_run f2]
  generalize hT : 2 * m * rows.length = T at hn
  constructor
  · intro k x hx
    by_cases q : x + T + e < n
    · rw [← runM_left h m x (by rw [hT]; exact q)]
      exact k x (by omega)
    · have := runM_right h m x (by rw [hT]; omega) hx
      rw [k (x + P) (by omega)] at this
      omega
  · intro k x hx
    by_cases q : x + T + e < n
    · rw [runM_left h m x (by rw [hT]; exact q)]
      exact k x (by omega)
    · obtain ⟨y, rfl⟩ : ∃ y, x = y + P := ⟨x - P, by omega⟩
      rw [runM_right h m y (by rw [hT]; omega) (by omega), k y (by omega)]
/-! the set -/
def backAt (rows : List Rw) (m : Nat) (b : Bool) (n : Nat) : Bool := decide (∀ r ∈ rows, r.fits n) && isBack (sentRound (roundOf rows b) n) m
theorem gr_shared {rows : List Rw} : ∀ r ∈ rows, r.gr ∣ shared rows := by
  have g : ∀ (rows : List Rw) (p : Nat), p ∣ rows.foldl (fun p r => Nat.lcm p r.gr) p ∧ ∀ r ∈ rows, r.gr ∣ rows.foldl (fun p r => Nat.lcm p r.gr) p := by
    intro rows
    induction rows with
    | nil => intro p; exact ⟨Nat.dvd_refl _, fun r hr => by cases hr⟩
    | cons r rows ih =>
      intro p
      obtain ⟨a, b⟩ := ih (Nat.lcm p r.gr)
      refine ⟨Nat.dvd_trans (Nat.dvd_lcm_left _ _) a, fun x hx => ?_⟩
      rcases List.mem_cons.mp hx with z | z
      · rw [z]; exact Nat.dvd_trans (Nat.dvd_lcm_right _ _) a
      · exact b x z
  exact (g rows 1).2
theorem backAt_per {rows : List Rw} {m n : Nat} {b : Bool} (h : WbOk rows m b) (hn : wbStart rows m b ≤ n) : backAt rows m b (n + wbPeriod rows) = backAt rows m b n := by
  have hs : (whereFits rows).start ≤ n ∧ 2 * (2 * m * (roundOf rows b).length + ends rows) + 2 * wbPeriod rows ≤ n := by
    unfold wbStart at hn
    exact ⟨Nat.le_trans (Nat.le_max_left _ _) hn, Nat.le_trans (Nat.le_max_right _ _) hn⟩
  have hd : shared rows ∣ wbPeriod rows := Nat.dvd_lcm_right _ _
  have hd2 : (whereFits rows).period ∣ wbPeriod rows := Nat.dvd_lcm_left _ _
  have hfit : decide (∀ r ∈ rows, r.fits (n + wbPeriod rows)) = decide (∀ r ∈ rows, r.fits n) := by
    rw [← mem_whereFits h.r, ← mem_whereFits h.r]
    refine mem_per (by omega) (by omega) ?_
    obtain ⟨q, hq⟩ := hd2
    rw [hq, show n + (whereFits rows).period * q - (whereFits rows).start = (n - (whereFits rows).start) + (whereFits rows).period * q by omega, Nat.add_mul_mod_self_left]
  unfold backAt
  rw [hfit]
  by_cases q : ∀ r ∈ rows, r.fits n
  · rw [decide_eq_true q, Bool.true_and, Bool.true_and]
    refine back_per (e := ends rows) (fun r hr => ?_) (by omega)
    obtain ⟨s, hs1, hs2⟩ := roundOf_mem hr
    have o := h.r.ok s hs1
    have d1 : s.gr ∣ wbPeriod rows := Nat.dvd_trans (gr_shared s hs1) hd
    have e1 := ends_ge s hs1
    rcases hs2 with e | e
    · rw [e]
      exact ⟨q s hs1, o.gr0, d1, e1⟩
    · rw [e]
      exact ⟨fits_back (q s hs1), by rw [gr_back]; exact o.gr0, by rw [gr_back]; exact d1, by rw [need_back]; exact e1⟩
  · rw [decide_eq_false q, Bool.false_and, Bool.false_and]
theorem backAt_mul {rows : List Rw} {m n : Nat} {b : Bool} (h : WbOk rows m b) (hn : wbStart rows m b ≤ n) : ∀ k : Nat, backAt rows m b (n + k * wbPeriod rows) = backAt rows m b n
  | 0 => by rw [Nat.zero_mul, Nat.add_zero]
  | k + 1 => by
    rw [Nat.succ_mul, ← Nat.add_assoc, backAt_per h (by omega)]
    exact backAt_mul h hn k
theorem mem_whereBack (rows : List Rw) (m : Nat) (b : Bool) (h : WbOk rows m b) (n : Nat) : (whereBack rows m b).mem n = (decide (∀ r ∈ rows, r.fits n) && isBack (sentRound (roundOf rows b) n) m) := by
  show _ = backAt rows m b n
  have hp := (wbPeriod_d4 h.r).2
  unfold whereBack
  rw [mem_least (show 0 < (fromM (wbMarks rows m b) (wbPeriod rows)).period from hp), mem_fromM hp, wbMarks_len, Nat.add_sub_cancel]
  have hlt : (if n < wbStart rows m b then n else wbStart rows m b + (n - wbStart rows m b) % wbPeriod rows) < wbStart rows m b + wbPeriod rows := by
    have := Nat.mod_lt (n - wbStart rows m b) hp
    split <;> omega
  unfold wbMarks
  rw [List.getD_eq_getElem?_getD, List.getElem?_map, List.getElem?_range hlt]
  show ((whereFits rows).mem _ && isBack _ m) = _
  rw [mem_whereFits h.r]
  show backAt rows m b _ = _
  split
  · rfl
  · rename_i hge
    have e : n = wbStart rows m b + (n - wbStart rows m b) % wbPeriod rows + (n - wbStart rows m b) / wbPeriod rows * wbPeriod rows := by
      have := Nat.div_add_mod (n - wbStart rows m b) (wbPeriod rows)
      rw [Nat.mul_comm] at this
      omega
    conv => rhs; rw [e]
    rw [backAt_mul h (Nat.le_add_right _ _)]
end K17
/-! cycles: the least number after which all are back -/
namespace K17
def itN (p : List Nat) : Nat → Nat → Nat
  | 0, x => x
  | m + 1, x => p.getD (itN p m x) 0
section
variable {p : List Nat} {n : Nat} (h : p.Perm (List.range n))
include h
theorem f_lt {x : Nat} (hx : x < n) : p.getD x 0 < n := by
  rw [List.getD_eq_getElem?_getD, List.getElem?_eq_getElem (by rw [perm_len h]; exact hx)]
  exact perm_lt h _ (List.getElem_mem _)
theorem f_inj {x y : Nat} (hx : x < n) (hy : y < n) (e : p.getD x 0 = p.getD y 0) : x = y := by
  have hn : p.Nodup := h.nodup_iff.mpr List.nodup_range
  rw [List.getD_eq_getElem?_getD, List.getD_eq_getElem?_getD, List.getElem?_eq_getElem (by rw [perm_len h]; exact hx), List.getElem?_eq_getElem (by rw [perm_len h]; exact hy)] at e
  exact (List.getElem_inj hn).mp e
theorem it_lt {x : Nat} (hx : x < n) : ∀ m : Nat, itN p m x < n
  | 0 => hx
  | m + 1 => f_lt h (it_lt hx m)
theorem it_inj {x y : Nat} (hx : x < n) (hy : y < n) : ∀ m : Nat, itN p m x = itN p m y → x = y
  | 0, e => e
  | m + 1, e => it_inj hx hy m (f_inj h (it_lt h hx m) (it_lt h hy m) e)
theorem many_it : ∀ m : Nat, sentMany p m = (List.range n).map (itN p m)
  | 0 => by
    show List.range p.length = (List.range n).map fun x => x
    rw [perm_len h, List.map_id']
  | m + 1 => by
    show (sentMany p m).map (fun q => p.getD q 0) = _
    rw [many_it m, List.map_map]
    rfl
theorem back_it (m : Nat) : isBack p m = true ↔ ∀ x, x < n → itN p m x = x := by
  rw [isBack_iff h, many_it h]
  constructor
  · intro e x hx
    have := congrArg (fun l => l[x]?) e
    simp only [List.getElem?_map, List.getElem?_range hx] at this
    exact Option.some.inj this
  · intro e
    conv => rhs; rw [← List.map_id' (List.range n)]
    apply List.map_congr_left
    intro x hx
    exact e x (List.mem_range.mp hx)
end
theorem it_add (p : List Nat) : ∀ a b x : Nat, itN p (a + b) x = itN p a (itN p b x)
  | 0, b, x => by rw [Nat.zero_add]; rfl
  | a + 1, b, x => by
    rw [Nat.succ_add]
    show p.getD (itN p (a + b) x) 0 = p.getD (itN p a (itN p b x)) 0
    rw [it_add p a b x]
/-- what a turn of cycles knows: all that is known runs in itself -/
structure Clo (p : List Nat) (n : Nat) (known : List Nat) : Prop where
  nd : known.Nodup
  lt : ∀ x ∈ known, x < n
  fw : ∀ x ∈ known, p.getD x 0 ∈ known
  bw : ∀ x, x < n → p.getD x 0 ∈ known → x ∈ known
def orb (p : List Nat) (x c : Nat) : List Nat := (List.range c).map fun i => itN p i x
theorem orb_snoc (p : List Nat) (x c : Nat) : orb p x (c + 1) = orb p x c ++ [itN p c x] := by
  unfold orb
  rw [List.range_succ, List.map_append]
  rfl
theorem orb_mem {p : List Nat} {x c y : Nat} : y ∈ orb p x c ↔ ∃ i, i < c ∧ itN p i x = y := by
  unfold orb
  rw [List.mem_map]
  constructor
  · rintro ⟨i, h1, h2⟩
    exact ⟨i, List.mem_range.mp h1, h2⟩
  · rintro ⟨i, h1, h2⟩
    exact ⟨i, List.mem_range.mpr h1, h2⟩
structure Cyc (p : List Nat) (x c : Nat) : Prop where
  pos : 0 < c
  back : itN p c x = x
  nd : (orb p x c).Nodup
theorem clo_it {p : List Nat} {n : Nat} {known : List Nat} (h : p.Perm (List.range n)) (k : Clo p n known) {x : Nat} (hx : x < n) : ∀ j : Nat, itN p j x ∈ known → x ∈ known
  | 0, e => e
  | j + 1, e => clo_it h k hx j (k.bw _ (it_lt h hx j) e)
theorem orb_inj {p : List Nat} {x c i j : Nat} (h : (orb p x c).Nodup) (hi : i < c) (hj : j < c) (e : itN p i x = itN p j x) : i = j := by
  unfold orb at h
  have h1 : i < ((List.range c).map fun i => itN p i x).length := by rw [List.length_map, List.length_range]; exact hi
  have h2 : j < ((List.range c).map fun i => itN p i x).length := by rw [List.length_map, List.length_range]; exact hj
  refine (List.getElem_inj (h₀ := h1) (h₁ := h2) h).mp ?_
  rw [List.getElem_map, List.getElem_map, List.getElem_range, List.getElem_range]
  exact e
theorem cyOne_spec {p : List Nat} {n : Nat} {known : List Nat} (h : p.Perm (List.range n)) (k : Clo p n known) {x : Nat} (hx : x < n) (hk : x ∉ known) :
    ∀ (f j : Nat), f = n + 1 - (known.length + j) → (known ++ orb p x j).Nodup → ∃ c, Cyc p x c ∧ (known ++ orb p x c).Nodup ∧ cyOne p f (known ++ orb p x j) (itN p j x) j = (known ++ orb p x c, c) := by
  intro f
  induction f with
  | zero =>
    intro j hf hnd
    exfalso
    have hl := nodup_lt (n := n) hnd fun y hy => by
      rcases List.mem_append.mp hy with z | z
      · exact k.lt y z
      · obtain ⟨i, _, e⟩ := orb_mem.mp z
        rw [← e]
        exact it_lt h hx i
    have : (known ++ orb p x j).length = known.length + j := by
      unfold orb
      rw [List.length_append, List.length_map, List.length_range]
    omega
  | succ f ih =>
    intro j hf hnd
    unfold cyOne
    split
    · rename_i hm
      have hno : (orb p x j).Nodup := (List.nodup_append.mp hnd).2.1
      rcases List.mem_append.mp hm with z | z
      · exact absurd (clo_it h k hx j z) hk
      · obtain ⟨i, hi, e⟩ := orb_mem.mp z
        cases i with
        | zero => exact ⟨j, ⟨by omega, e.symm, hno⟩, hnd, rfl⟩
        | succ i =>
          exfalso
          obtain ⟨j', rfl⟩ : ∃ j', j = j' + 1 := ⟨j - 1, by omega⟩
          have e2 : itN p i x = itN p j' x := f_inj h (it_lt h hx i) (it_lt h hx j') e
          have := orb_inj hno (by omega) (by omega) e2
          omega
    · rename_i hm
      have e1 : known ++ orb p x j ++ [itN p j x] = known ++ orb p x (j + 1) := by
        rw [orb_snoc, List.append_assoc]
      have e2 : p.getD (itN p j x) 0 = itN p (j + 1) x := rfl
      rw [e1, e2]
      refine ih (j + 1) (by omega) ?_
      rw [← e1]
      rw [List.nodup_append]
      refine ⟨hnd, by simp, fun a ha b hb e => ?_⟩
      rw [List.mem_singleton] at hb
      subst hb
      exact hm (e ▸ ha)
theorem clo_add {p : List Nat} {n : Nat} {known : List Nat} (h : p.Perm (List.range n)) (k : Clo p n known) {x c : Nat} (hx : x < n) (hc : Cyc p x c) (hn : (known ++ orb p x c).Nodup) : Clo p n (known ++ orb p x c) := by
  refine ⟨hn, fun y hy => ?_, fun y hy => ?_, fun y hy e => ?_⟩
  · rcases List.mem_append.mp hy with z | z
    · exact k.lt y z
    · obtain ⟨i, _, e⟩ := orb_mem.mp z
      rw [← e]
      exact it_lt h hx i
  · rcases List.mem_append.mp hy with z | z
    · exact List.mem_append_left _ (k.fw y z)
    · obtain ⟨i, hi, e⟩ := orb_mem.mp z
      subst e
      refine List.mem_append_right _ (orb_mem.mpr ?_)
      by_cases q : i + 1 < c
      · exact ⟨i + 1, q, rfl⟩
      · refine ⟨0, hc.pos, ?_⟩
        have : i + 1 = c := by omega
        show x = itN p (i + 1) x
        rw [this, hc.back]
  · rcases List.mem_append.mp e with z | z
    · exact List.mem_append_left _ (k.bw y hy z)
    · obtain ⟨i, hi, e2⟩ := orb_mem.mp z
      refine List.mem_append_right _ (orb_mem.mpr ?_)
      cases i with
      | zero =>
        have hp := hc.pos
        refine ⟨c - 1, by omega, ?_⟩
        refine f_inj h (it_lt h hx _) hy ?_
        rw [← e2]
        show itN p (c - 1 + 1) x = x
        rw [Nat.sub_add_cancel hp, hc.back]
      | succ i => exact ⟨i, by omega, f_inj h (it_lt h hx i) hy e2⟩
theorem it_mul {p : List Nat} {x c : Nat} (h : itN p c x = x) : ∀ q : Nat, itN p (c * q) x = x
  | 0 => rfl
  | q + 1 => by rw [Nat.mul_succ, Nat.add_comm, it_add, it_mul h q, h]
theorem cyc_dvd {p : List Nat} {x c : Nat} (hc : Cyc p x c) (m : Nat) : itN p m x = x ↔ c ∣ m := by
  constructor
  · intro e
    have hr := Nat.mod_lt m hc.pos
    have e2 : itN p (m % c) x = x := by
      have : itN p (m % c + c * (m / c)) x = x := by rw [Nat.mod_add_div]; exact e
      rwa [it_add, it_mul hc.back] at this
    have := orb_inj (i := m % c) (j := 0) hc.nd hr hc.pos e2
    exact Nat.dvd_of_mod_eq_zero this
  · rintro ⟨q, rfl⟩
    exact it_mul hc.back q
theorem orb_back {p : List Nat} {x c : Nat} (hc : Cyc p x c) (m : Nat) : (∀ y ∈ orb p x c, itN p m y = y) ↔ c ∣ m := by
  rw [← cyc_dvd hc]
  constructor
  · intro e
    exact e x (orb_mem.mpr ⟨0, hc.pos, rfl⟩)
  · intro e y hy
    obtain ⟨i, _, rfl⟩ := orb_mem.mp hy
    rw [← it_add, Nat.add_comm, it_add, e]
theorem cyAll_spec {p : List Nat} {n : Nat} (h : p.Perm (List.range n)) : ∀ (xs known found : List Nat), (∀ x ∈ xs, x < n) → Clo p n known →
    (∀ m, (∀ y ∈ known, itN p m y = y) ↔ ∀ c ∈ found, c ∣ m) → ∀ m, (∀ y, y ∈ known ∨ y ∈ xs → itN p m y = y) ↔ ∀ c ∈ cyAll p xs known found, c ∣ m
  | [], known, found, _, _, hf, m => by
    show _ ↔ ∀ c ∈ found, c ∣ m
    rw [← hf m]
    constructor
    · intro e y hy
      exact e y (.inl hy)
    · intro e y hy
      rcases hy with z | z
      · exact e y z
      · cases z
  | x :: xs, known, found, hx, k, hf, m => by
    have hxn := hx x (List.mem_cons_self ..)
    unfold cyAll
    simp only
    by_cases q : x ∈ known
    · have e : cyOne p (p.length + 1 - known.length) known x 0 = (known, 0) := by
        have hl : known.length ≤ n := nodup_lt k.nd k.lt
        rw [perm_len h, show n + 1 - known.length = (n - known.length) + 1 by omega]
        unfold cyOne
        rw [if_pos q]
      rw [e]
      simp only [Nat.lt_irrefl, if_false]
      rw [← cyAll_spec h xs known found (fun y hy => hx y (List.mem_cons_of_mem _ hy)) k hf m]
      constructor
      · intro e y hy
        refine e y ?_
        rcases hy with z | z
        · exact .inl z
        · exact .inr (List.mem_cons_of_mem _ z)
      · intro e y hy
        refine e y ?_
        rcases hy with z | z
        · exact .inl z
        · rcases List.mem_cons.mp z with w | w
          · rw [w]; exact .inl q
          · exact .inr w
    · obtain ⟨c, c1, c2, c3⟩ := cyOne_spec h k hxn q (p.length + 1 - known.length) 0 (by rw [perm_len h]; rfl) (by unfold orb; rw [List.range_zero, List.map_nil, List.append_nil]; exact k.nd)
      have e : cyOne p (p.length + 1 - known.length) known x 0 = (known ++ orb p x c, c) := by
        rw [← c3]
        unfold orb
        rw [List.range_zero, List.map_nil, List.append_nil]
        rfl
      rw [e]
      simp only [if_pos c1.pos]
      rw [← cyAll_spec h xs (known ++ orb p x c) (found ++ [c]) (fun y hy => hx y (List.mem_cons_of_mem _ hy)) (clo_add h k hxn c1 c2) (fun m => ?_) m]
      · constructor
        · intro e y hy
          rcases hy with z | z
          · rcases List.mem_append.mp z with w | w
            · exact e y (.inl w)
            · exact (orb_back c1 m).mpr ((cyc_dvd c1 m).mp (e x (.inr (List.mem_cons_self ..)))) y w
          · exact e y (.inr (List.mem_cons_of_mem _ z))
        · intro e y hy
          rcases hy with z | z
          · exact e y (.inl (List.mem_append_left _ z))
          · rcases List.mem_cons.mp z with w | w
            · rw [w]; exact e x (.inl (List.mem_append_right _ (orb_mem.mpr ⟨0, c1.pos, rfl⟩)))
            · exact e y (.inr w)
      · constructor
        · intro e d hd
          rcases List.mem_append.mp hd with z | z
          · exact (hf m).mp (fun y hy => e y (List.mem_append_left _ hy)) d z
          · rw [List.mem_singleton] at z
            rw [z]
            exact (orb_back c1 m).mp fun y hy => e y (List.mem_append_right _ hy)
        · intro e y hy
          rcases List.mem_append.mp hy with z | z
          · exact (hf m).mpr (fun d hd => e d (List.mem_append_left _ hd)) y z
          · exact (orb_back c1 m).mpr (e c (List.mem_append_right _ (List.mem_singleton.mpr rfl))) y z
theorem lcmL_dvd (l : List Nat) (m : Nat) : lcmL l ∣ m ↔ ∀ c ∈ l, c ∣ m := by
  have g : ∀ (l : List Nat) (a : Nat), l.foldl Nat.lcm a ∣ m ↔ a ∣ m ∧ ∀ c ∈ l, c ∣ m := by
    intro l
    induction l with
    | nil => intro a; simp
    | cons x l ih =>
      intro a
      rw [List.foldl_cons, ih, Nat.lcm_dvd_iff]
      constructor
      · rintro ⟨⟨h1, h2⟩, h3⟩
        refine ⟨h1, fun c hc => ?_⟩
        rcases List.mem_cons.mp hc with z | z
        · rw [z]; exact h2
        · exact h3 c z
      · rintro ⟨h1, h2⟩
        exact ⟨⟨h1, h2 x (List.mem_cons_self ..)⟩, fun c hc => h2 c (List.mem_cons_of_mem _ hc)⟩
  have := g l 1
  unfold lcmL
  rw [this]
  constructor
  · exact fun h => h.2
  · exact fun h => ⟨Nat.one_dvd m, h⟩
theorem lcmL_pos {l : List Nat} (h : ∀ c ∈ l, 0 < c) : 0 < lcmL l := by
  have g : ∀ (l : List Nat) (a : Nat), (∀ c ∈ l, 0 < c) → 0 < a → 0 < l.foldl Nat.lcm a := by
    intro l
    induction l with
    | nil => intro a _ h; exact h
    | cons x l ih => intro a hl ha; exact ih _ (fun c hc => hl c (List.mem_cons_of_mem _ hc)) (Nat.lcm_pos ha (hl x (List.mem_cons_self ..)))
  exact g l 1 h Nat.one_pos
theorem cyAll_pos (places : List Nat) : ∀ (xs known found : List Nat), (∀ c ∈ found, 0 < c) → ∀ c ∈ cyAll places xs known found, 0 < c
  | [], known, found, h => h
  | x :: xs, known, found, h => by
    unfold cyAll
    refine cyAll_pos places xs _ _ fun c hc => ?_
    split at hc
    · rename_i h0
      rcases List.mem_append.mp hc with z | z
      · exact h c z
      · rw [List.mem_singleton] at z
        subst z
        exact h0
    · exact h c hc
theorem back_lcm (p : List Nat) (n m : Nat) (h : p.Perm (List.range n)) : 0 < lcmL (cycles p) ∧ (isBack p m = decide (m % lcmL (cycles p) = 0)) := by
  have hpos : 0 < lcmL (cycles p) := lcmL_pos (cyAll_pos p _ _ _ fun c hc => by cases hc)
  refine ⟨hpos, ?_⟩
  have hs := cyAll_spec h (List.range p.length) [] [] (fun x hx => by rw [perm_len h] at hx; exact List.mem_range.mp hx) ⟨List.nodup_nil, fun x hx => (by cases hx), fun x hx => (by cases hx), fun x _ hx => (by cases hx)⟩ (fun m => ⟨fun _ c hc => (by cases hc), fun _ y hy => (by cases hy)⟩) m
  apply Bool.eq_iff_iff.mpr
  rw [back_it h, decide_eq_true_eq, ← Nat.dvd_iff_mod_eq_zero, lcmL_dvd]
  show _ ↔ ∀ c ∈ cyAll p (List.range p.length) [] [], c ∣ m
  rw [← hs, perm_len h]
  constructor
  · intro e y hy
    rcases hy with z | z
    · cases z
    · exact e y (List.mem_range.mp z)
  · intro e y hy
    exact e y (.inr (List.mem_range.mpr hy))
end K17
/-! the text; data of the mathematics; what the walk asks of the text -/
namespace K17
open PySem L2 PySem.Spec PyProof.Rows
def topS (i : Nat) : Stmt := PySem.Challenge.pw_allstitches_k17_whole_cross_relations.main.body.getD i (.Pass ⟨0, 0, 0, 0⟩)

/-! ### data of the mathematics -/
def Kd.str : Kd → Str
  | .k => "k" | .p => "p" | .c2f => "c2f" | .c2b => "c2b" | .c2fw => "c2fw" | .c2bw => "c2bw" | .c4f => "c4f" | .c4b => "c4b" | .c4fw => "c4fw" | .c4bw => "c4bw"
/-- what KINDS tells of it last -/
def Kd.mi : Kd → Str
  | .k => "k" | .p => "p" | .c2f => "c2b" | .c2b => "c2f" | .c2fw => "c2bw" | .c2bw => "c2fw" | .c4f => "c4b" | .c4b => "c4f" | .c4fw => "c4bw" | .c4bw => "c4fw"
def Kd.vals (k : Kd) : List V := [.int (k.tk : Int), .int (k.tk : Int), .str k.bk.str, .str k.mi]
def cellD (k : Kd) : D := .tup [.str k.str, .str "a"]
def wD (w : Wd) : D := .tup (w.map cellD)
def rowD (r : Rw) : D := .tup [wD r.b, wD r.g, wD r.a]
def rowsD (rs : List Rw) : D := .tup (rs.map rowD)
def rowsL (rs : List Rw) : D := .lst (rs.map rowD)
def nD (n : Nat) : D := .int (n : Int)
def nsT (l : List Nat) : D := .tup (l.map nD)
def nsL (l : List Nat) : D := .lst (l.map nD)
def bsL (l : List Bool) : D := .lst (l.map .bl)
def fmD (f : Fm) : D := .tup [nsT f.early, nD f.start, nD f.period, nsT f.later]
def szG (f : Fm) : List (Str × D) := [("form", fmD f), ("early", nsT f.early), ("start", nD f.start), ("period", nD f.period), ("later", nsT f.later)]
def szD (CS : Addr) (f : Fm) : D := .ins CS (szG f)
def ratG (b : Int) : List (Str × D) := [("base", .int b), ("rise", .int 1), ("below", .int 1)]
def ratD (CR : Addr) (b : Int) : D := .ins CR (ratG b)
def spotG (CR : Addr) (r : Rw) : List (Str × D) := [("part", .int 0), ("place", .int 0), ("row", rowD r), ("loops", ratD CR 0), ("need", nD r.need)]
def spotD (CR CP : Addr) (r : Rw) : D := .ins CP (spotG CR r)
def wayS (round : Bool) : Str := if round then "round" else "flat"
theorem nI_map (l : List Nat) : l.map nD = (l.map fun (n : Nat) => (n : Int)).map D.int := by
  rw [List.map_map]
  rfl

/-! ### what the walk asks -/
structure Txt (K : PySem.W.Frag) (w : World) (mg : Str → Option Value) (kd CS CR CP : Addr) : Prop where
  n_len : mg "len" = none
  n_sum : mg "sum" = none
  n_all : mg "all" = none
  n_max : mg "max" = none
  n_abs : mg "abs" = none
  n_isinstance : mg "isinstance" = none
  n_sorted : mg "sorted" = none
  n_int : mg "int" = none
  n_tuple : mg "tuple" = none
  n_list : mg "list" = none
  n_range : mg "range" = none
  n_zip : mg "zip" = none
  n_enumerate : mg "enumerate" = none
  n_bool : mg "bool" = none
  n_str : mg "str" = none
  g_KINDS : mg "KINDS" = some (.ref kd)
  g_Sizes : mg "Sizes" = some (.ref CS)
  g_MOST_PERIOD_sizes : ∃ u, mg "MOST_PERIOD_sizes" = some u ∧ RelV (.int 5040) u
  g_MOST_CELLS : ∃ u, mg "MOST_CELLS" = some u ∧ RelV (.int 60) u
  g_MOST_REST : ∃ u, mg "MOST_REST" = some u ∧ RelV (.int 30) u
  g_MOST_MOVES : ∃ u, mg "MOST_MOVES" = some u ∧ RelV (.int 24) u
  g_MOST_ROWS : ∃ u, mg "MOST_ROWS" = some u ∧ RelV (.int 6) u
  g_MOST_PERIOD_crossing : ∃ u, mg "MOST_PERIOD_crossing" = some u ∧ RelV (.int 24) u
  kdict : ∃ es n, KDict K w kd es n
  kat : ∀ k : Kd, KAt K kd k.str k.vals
  cS : Cls K CS
  cR : Cls K CR
  cP : Cls K CP
  aS_form : NoAttr K CS "form"
  aS_early : NoAttr K CS "early"
  aS_start : NoAttr K CS "start"
  aS_period : NoAttr K CS "period"
  aS_later : NoAttr K CS "later"
  aR_base : NoAttr K CR "base"
  aR_rise : NoAttr K CR "rise"
  aR_below : NoAttr K CR "below"
  aP_part : NoAttr K CP "part"
  aP_place : NoAttr K CP "place"
  aP_row : NoAttr K CP "row"
  aP_loops : NoAttr K CP "loops"
  aP_need : NoAttr K CP "need"
  selfS : PySem.W.selfFirst K CS = true
  neS : PySem.W.findIn K (.ref CS) "__ne__" = some (some (.builtin "object.__ne__"))
  subS : PySem.W.subIn K (.ref CS) (.type "object") = some true
  insS : C8.InsC K CS

/-! ### rules with the bundles of Codes -/
section
variable {X : Cx} {k j : Nat} {C : Addr} {x m : Str} {sp : Sp} {p pos : Pos}
theorem vals_nil {us : List Value} (r : Vals [] us) : us = [] := (r.nil_iff).mpr rfl
theorem op_ownM {op : Operator} (c : C8.Met X.prog X.w X.K X.mg X.base k C m sp []) (hc : PySem.W.selfFirst X.K C = true) (hr : Room j X.A) (hk : k ≤ j) (hd : PySem.dunder op.info.2 = m := by decide +kernel) : OpR X (binaryOp op) (rOwn C sp) := by
  obtain ⟨f, fd, ps, ds, _, hm, F, b, d⟩ := c.ex
  obtain rfl := vals_nil d
  subst hd
  exact op_own F (hr.mono hk) b hc hm.at_ hm.fn
theorem op_ownInM (c : C8.Met X.prog X.w X.K X.mg X.base k C "__contains__" sp []) (hr : Room j X.A) (hk : k ≤ j) : OpR X (compareOp .In) (rOwnIn C sp) := by
  obtain ⟨f, fd, ps, ds, _, hm, F, b, d⟩ := c.ex
  obtain rfl := vals_nil d
  exact op_ownIn F (hr.mono hk) b hm.at_ hm.fn
theorem tru_ownM (c : C8.Met X.prog X.w X.K X.mg X.base k C "__bool__" sp []) (hr : Room j X.A) (hk : k ≤ j) : TruR X (rOwnTru C sp) := by
  obtain ⟨f, fd, ps, ds, _, hm, F, b, d⟩ := c.ex
  obtain rfl := vals_nil d
  exact tru_own F (hr.mono hk) b hm.at_ hm.fn
theorem op_ownNeM (c : C8.Met X.prog X.w X.K X.mg X.base k C "__eq__" sp []) (hne : PySem.W.findIn X.K (.ref C) "__ne__" = some (some (.builtin "object.__ne__"))) (ho : PySem.W.subIn X.K (.ref C) (.type "object") = some true) (hr : Room j X.A) (hk : k + 1 ≤ j) : OpR X (compareOp .NotEq) (rOwnNe C sp) := by
  obtain ⟨f, fd, ps, ds, _, hm, F, b, d⟩ := c.ex
  obtain rfl := vals_nil d
  exact op_ownNe F (hr.mono hk) b hne ho hm.at_ hm.fn
theorem pe_c0 (c : C8.Cal X.prog X.w X.K X.mg X.base k x sp []) (hr : Room j X.A) (hk : k ≤ j) (hg : Gl X x) (hdb : (x == ("__debug__" : Str)) = false := by decide) : PE X (.Call (.Name x p) [] [] pos) (tCall sp [] E0 tNil) := by
  obtain ⟨f, fd, ps, ds, F, hm, kp, b, d⟩ := c.ex
  exact pe_call0 F (hr.mono hk) hg hm kp b d pass0 hdb
theorem ix_kdT {K' : PySem.W.Frag} {w' : World} {kd : Addr} (h : ∃ es n, KDict K' w' kd es n) (hK : X.K = K' := by rfl) (hw : X.w = w' := by rfl) : IxR X (rKd K' kd) := by
  subst hK hw
  obtain ⟨es, n, h⟩ := h
  exact ix_kd h
theorem op_inKdT {K' : PySem.W.Frag} {w' : World} {kd : Addr} (h : ∃ es n, KDict K' w' kd es n) (hK : X.K = K' := by rfl) (hw : X.w = w' := by rfl) : OpR X (compareOp .In) (rInKd K' kd) := by
  subst hK hw
  obtain ⟨es, n, h⟩ := h
  exact op_inKd h
end

/-! ### the kit's rules with the written part named -/
section
variable {X : Cx} {e : Expr} {ta : TE} {tg : Expr} {f : Str} {pos : Pos}
theorem ix_tupK (K' : PySem.W.Frag) (hK : X.K = K' := by rfl) : IxR X (rIxT K') := by subst hK; exact ix_tup
theorem ix_listK (K' : PySem.W.Frag) (hK : X.K = K' := by rfl) : IxR X (rIxL K') := by subst hK; exact ix_list
theorem op_inK (K' : PySem.W.Frag) (hK : X.K = K' := by rfl) : OpR X (compareOp .In) (rIn K' false) := by subst hK; exact op_in_seq
theorem op_eqDK (K' : PySem.W.Frag) (hu : X.A.units + 64 < cLine) (hK : X.K = K' := by rfl) : OpR X (compareOp .Eq) (rEqD K') := by subst hK; exact op_eqD hu
theorem op_neDK (K' : PySem.W.Frag) (hu : X.A.units + 64 < cLine) (hK : X.K = K' := by rfl) : OpR X (compareOp .NotEq) (rNeD K') := by subst hK; exact op_neD hu
theorem pe_fldK (K' : PySem.W.Frag) (he : PE X e ta) (hb : attributeBase e f X.env (eval e X.env) = eval e X.env) (hK : X.K = K' := by rfl) : PE X (.Attribute e f pos) (tFld K' ta f) := by subst hK; exact pe_fld he hb
theorem cr_allK (K' : PySem.W.Frag) (hc : X.calm = true) (hK : X.K = K' := by rfl) : CallR X (.builtin "all") (rAll K') := by subst hK; exact cr_all hc
theorem call_tupleK (K' : PySem.W.Frag) (hK : X.K = K' := by rfl) : CallR X (.type "tuple") (fun xs H Q => ∃ p ys, xs = [.ref p] ∧ ((SqL K' H p ys ∧ ∀ l, H l = none → Q (.ref l) (upd H l (.tup ys))) ∨ (SqT K' H p ys ∧ Q (.ref p) H))) := by subst hK; exact call_tuple_of
theorem pi_tupK (K' : PySem.W.Frag) (h : PE X e ta) (hK : X.K = K' := by rfl) : PI X tg e (iTup K' ta) := by subst hK; exact pi_tup h
theorem pi_listK (K' : PySem.W.Frag) (h : PE X e ta) (hK : X.K = K' := by rfl) : PI X tg e (iList K' ta) := by subst hK; exact pi_list h
end

/-! ### bool(a tuple); isinstance of the own class -/
section
open PySem.Sem (wp)
theorem meets_bool_tuple (l : Addr) (items : Array Value) (hfit : (items.size : Int) < 2 ^ 63) :
    Meets (Builtin.«bool.__new__» ⟨[.type "bool", .ref l], []⟩) (fun _ R s => IsTup s.heap l items ∧ R (.ok (.ret (.bool (!items.isEmpty)))) { s with toks := s.toks + 1 + 1 }) :=
  Meets.of_wp fun prog w A R s hs => by
    obtain ⟨hl, hs⟩ := hs
    obtain ⟨hp, g, d, tk, os⟩ := s
    have f1 := F.conv_sub_bool
    repeat (any_goals (first | assumption | (with_reducible refine truthy_tuple hl hfit ?_) | wp_step))
    all_goals first | exact ⟨_, rfl, hs⟩ | exact hs | skip
theorem call_boolT {X : Cx} : CallR X (.type "bool") (fun xs H Q => ∃ (a : Addr) (zs : List V), xs = [.ref a] ∧ SqT X.K H a zs ∧ Q (.bl (!zs.isEmpty)) H) := by
  intro pins s σ H xs us Q I r h
  obtain ⟨a, zs, rfl, hq, q⟩ := h
  obtain rfl := Vals.ref1 r
  obtain ⟨its, rv, pl, hz⟩ := I.tuple hq
  have hl := line63
  have hlen := rv.length
  refine call_bool_1 (meets_bool_tuple a its.toArray (by simp only [List.size_toArray]; omega)) ⟨pl, rfl, ?_⟩
  exact ⟨.bl (!zs.isEmpty), H, I.tok _, by rw [isEmpty_of rv]; rfl, q⟩
theorem cd_boolT {K : PySem.W.Frag} {ds : List D} : CD K (fun xs H Q => ∃ (a : Addr) (zs : List V), xs = [.ref a] ∧ SqT K H a zs ∧ Q (.bl (!zs.isEmpty)) H) [.tup ds] (.bl (!ds.isEmpty)) := fun vs Hb H s r Q k => by
  obtain ⟨v, rfl, r1⟩ := r.one_inv
  cases r1 with
  | @tup a xs _ h r =>
    refine ⟨a, xs, rfl, SqT.of (s _ _ h), ?_⟩
    have e : xs.isEmpty = ds.isEmpty := by
      cases r <;> rfl
    rw [e]
    exact k _ Hb H (.refl s) (.bl _)
theorem rd_isC {K : PySem.W.Frag} {δ : DS} {te : TE} {C : Addr} {gs : List (Str × D)} (c : C8.InsC K C) (h : RD K te δ (.ins C gs)) : RD K (tCB (rIsi K) (tCons te (tCons (tC (.ref C)) tNil))) δ (.bl true) := fun A σ Hb H q Q k =>
  h A σ Hb H q _ fun v Hb1 H1 g1 r1 => by
    cases r1 with
    | @ins a _ dx fs _ ha r =>
      exact ⟨.ref a, .ref C, _, _, true, rfl, .own C, .base (.ins (g1.s _ _ ha) c.cl c.ha c.hn c.htk c.hm), c.me, k _ Hb1 H1 g1 (.bl true)⟩
end
end K17
/-! the law's own table of kinds -/
namespace K17
open PySem L2 PySem.Spec PyProof.Rows
structure KRow where
  told : Str
  key : Str
  sa : Str
  sb : Str
  o : Str
  l : Str
  a : Int
  b : Int
def lawTab : List KRow := [⟨"k 1 1 p k", "k", "1", "1", "p", "k", 1, 1⟩,
  ⟨"p 1 1 k p", "p", "1", "1", "k", "p", 1, 1⟩,
  ⟨"ktbl 1 1 ptbl ktbl", "ktbl", "1", "1", "ptbl", "ktbl", 1, 1⟩,
  ⟨"ptbl 1 1 ktbl ptbl", "ptbl", "1", "1", "ktbl", "ptbl", 1, 1⟩,
  ⟨"sl 1 1 slf sl", "sl", "1", "1", "slf", "sl", 1, 1⟩,
  ⟨"slf 1 1 sl slf", "slf", "1", "1", "sl", "slf", 1, 1⟩,
  ⟨"yo 0 1 yo yo", "yo", "0", "1", "yo", "yo", 0, 1⟩,
  ⟨"co 0 1 co co", "co", "0", "1", "co", "co", 0, 1⟩,
  ⟨"bo 1 0 bo bo", "bo", "1", "0", "bo", "bo", 1, 0⟩,
  ⟨"kfb 1 2 pfb kfb", "kfb", "1", "2", "pfb", "kfb", 1, 2⟩,
  ⟨"pfb 1 2 kfb pfb", "pfb", "1", "2", "kfb", "pfb", 1, 2⟩,
  ⟨"m1l 0 1 m1lp m1r", "m1l", "0", "1", "m1lp", "m1r", 0, 1⟩,
  ⟨"m1r 0 1 m1rp m1l", "m1r", "0", "1", "m1rp", "m1l", 0, 1⟩,
  ⟨"m1lp 0 1 m1l m1rp", "m1lp", "0", "1", "m1l", "m1rp", 0, 1⟩,
  ⟨"m1rp 0 1 m1r m1lp", "m1rp", "0", "1", "m1r", "m1lp", 0, 1⟩,
  ⟨"k2tog 2 1 p2tog ssk", "k2tog", "2", "1", "p2tog", "ssk", 2, 1⟩,
  ⟨"ssk 2 1 ssp k2tog", "ssk", "2", "1", "ssp", "k2tog", 2, 1⟩,
  ⟨"p2tog 2 1 k2tog ssp", "p2tog", "2", "1", "k2tog", "ssp", 2, 1⟩,
  ⟨"ssp 2 1 ssk p2tog", "ssp", "2", "1", "ssk", "p2tog", 2, 1⟩,
  ⟨"cdd 3 1 cddp cdd", "cdd", "3", "1", "cddp", "cdd", 3, 1⟩,
  ⟨"cddp 3 1 cdd cddp", "cddp", "3", "1", "cdd", "cddp", 3, 1⟩,
  ⟨"c2f 2 2 c2fw c2b", "c2f", "2", "2", "c2fw", "c2b", 2, 2⟩,
  ⟨"c2b 2 2 c2bw c2f", "c2b", "2", "2", "c2bw", "c2f", 2, 2⟩,
  ⟨"c2fw 2 2 c2f c2bw", "c2fw", "2", "2", "c2f", "c2bw", 2, 2⟩,
  ⟨"c2bw 2 2 c2b c2fw", "c2bw", "2", "2", "c2b", "c2fw", 2, 2⟩,
  ⟨"c4f 4 4 c4fw c4b", "c4f", "4", "4", "c4fw", "c4b", 4, 4⟩,
  ⟨"c4b 4 4 c4bw c4f", "c4b", "4", "4", "c4bw", "c4f", 4, 4⟩,
  ⟨"c4fw 4 4 c4f c4bw", "c4fw", "4", "4", "c4f", "c4bw", 4, 4⟩,
  ⟨"c4bw 4 4 c4b c4fw", "c4bw", "4", "4", "c4b", "c4fw", 4, 4⟩]
def lawTxt : Str := "k 1 1 p k, p 1 1 k p, ktbl 1 1 ptbl ktbl, ptbl 1 1 ktbl ptbl, sl 1 1 slf sl, slf 1 1 sl slf, yo 0 1 yo yo, co 0 1 co co, bo 1 0 bo bo, kfb 1 2 pfb kfb, pfb 1 2 kfb pfb, m1l 0 1 m1lp m1r, m1r 0 1 m1rp m1l, m1lp 0 1 m1l m1rp, m1rp 0 1 m1r m1lp, k2tog 2 1 p2tog ssk, ssk 2 1 ssp k2tog, p2tog 2 1 k2tog ssp, ssp 2 1 ssk p2tog, cdd 3 1 cddp cdd, cddp 3 1 cdd cddp, c2f 2 2 c2fw c2b, c2b 2 2 c2bw c2f, c2fw 2 2 c2f c2bw, c2bw 2 2 c2b c2fw, c4f 4 4 c4fw c4b, c4b 4 4 c4bw c4f, c4fw 4 4 c4f c4bw, c4bw 4 4 c4b c4fw"
theorem tab_join : lawTxt.cps.toList = TL.joinL [44, 32] (lawTab.map fun r => r.told.cps.toList) := by decide +kernel
theorem tab_no : ∀ p ∈ lawTab.map (fun r => r.told.cps.toList), 44 ∉ p := by decide +kernel
theorem tab_sep : (", " : Str) = SX.S [44, 32] := by decide +kernel
theorem tab_split : Txt.split lawTxt ", " = lawTab.map KRow.told := by
  have h1 : lawTxt = SX.S (TL.joinL [44, 32] (lawTab.map fun r => r.told.cps.toList)) := by
    rw [← tab_join]
  rw [h1, tab_sep, SX.split_S (by decide) (by decide), SX.spl_join (by decide) tab_no, List.map_map]
  apply List.map_congr_left
  intro r _
  exact SX.S_tl r.told
def KRow.good (r : KRow) : Bool := decide (Txt.split r.told " " = [r.key, r.sa, r.sb, r.o, r.l]) && decide (PySem.intText? r.sa = some r.a) && decide (PySem.intText? r.sb = some r.b) && decide (r.sa.length ≤ 640) && decide (r.sb.length ≤ 640) && decide (r.told.length ≤ 1000)
theorem tab_good : ∀ r ∈ lawTab, r.good = true := by decide +kernel
theorem tab_nodup : (lawTab.map KRow.key).Nodup := by decide +kernel
theorem tab_len : lawTab.length = 29 := rfl
theorem tab_find (k : Kd) : (lawTab.find? fun r => decide (r.key = k.str)).map (fun r => (r.a, r.b)) = some ((k.tk : Int), (k.tk : Int)) := by
  cases k <;> decide +kernel
theorem txt_len : lawTxt.length ≤ 10000 := by decide +kernel
end K17
/-! the data layer over the mathematics' lists; small tactics -/
namespace K17
open PySem L2 PySem.Spec PyProof.Rows
section
variable {K : PySem.W.Frag} {δ : DS} {α : Type} {l : List α} {enc f : α → D} {p : α → Bool} {wi : TI} {g : TG} {tt : TT} {te : TE} {vs : List Nat}
theorem mapGet {i : Nat} {d : D} (h : (l.map enc)[i]? = some d) : ∃ x, l[i]? = some x ∧ x ∈ l ∧ d = enc x := by
  rw [List.getElem?_map] at h
  cases q : l[i]? with
  | none =>
    rw [q] at h
    cases h
  | some x =>
    rw [q] at h
    cases h
    exact ⟨x, rfl, List.mem_of_getElem? q, rfl⟩
theorem rd_lcM (hw : WI K wi δ (l.map enc)) (hz : l.length ≤ 99999)
    (hs : ∀ x ∈ l, ∃ is δ2, GD K g is (enc x) (DS.wipe δ vs) δ2 ∧ (∀ i ∈ is, i ∈ vs) ∧ RD K te δ2 (f x)) : RD K (tLc wi g tYes te vs) δ (.lst (l.map f)) :=
  rd_lcG hw (by rw [List.length_map]; exact hz) (by rw [List.length_map, List.length_map]) fun i d e h1 h2 => by
    obtain ⟨x, a1, a2, rfl⟩ := mapGet h1
    obtain ⟨y, b1, b2, rfl⟩ := mapGet h2
    rw [a1] at b1
    cases b1
    exact hs x a2
/-- by places -/
theorem rd_lcI (hw : WI K wi δ (l.map enc)) (hz : l.length ≤ 99999) {es : List D} (he : l.length = es.length)
    (hs : ∀ (i : Nat) (x : α) (e : D), l[i]? = some x → es[i]? = some e → ∃ is δ2, GD K g is (enc x) (DS.wipe δ vs) δ2 ∧ (∀ i ∈ is, i ∈ vs) ∧ RD K te δ2 e) : RD K (tLc wi g tYes te vs) δ (.lst es) :=
  rd_lcG hw (by rw [List.length_map]; exact hz) (by rw [List.length_map, he]) fun i d e h1 h2 => by
    obtain ⟨x, a1, a2, rfl⟩ := mapGet h1
    exact hs i x e a1 h2
theorem rd_lcFM (hw : WI K wi δ (l.map enc)) (hz : l.length ≤ 99999)
    (hs : ∀ x ∈ l, ∃ is δ2, GD K g is (enc x) (DS.wipe δ vs) δ2 ∧ (∀ i ∈ is, i ∈ vs) ∧ RT K tt δ2 (p x) ∧ (p x = true → RD K te δ2 (f x))) : RD K (tLc wi g tt te vs) δ (.lst ((l.filter p).map f)) := fun A σ Hb H q Q k =>
  hw A σ Hb H q _ fun J Hb1 H1 g1 wk => fun Dl hD => by
    have hD0 : Hb1 Dl = none := g1.s.free hD
    refine ⟨fun i m H' => m = l.length - i ∧ i ≤ l.length ∧ ∃ Hb' acc, Gr Hb1 H1 Hb' H' ∧ Hb' Dl = none ∧ H' Dl = some (.lst acc) ∧ RpA K Hb' acc (((l.take i).filter p).map f),
      ⟨l.length, by simp, Nat.zero_le _, Hb1, [], Gr.newO g1.s hD, hD0, upd_same, .nil⟩, ?_⟩
    rintro i m H' ⟨rfl, hi, Hb', acc, g2, hD1, hD2, ra⟩
    obtain ⟨stop, step⟩ := wk Hb' H' g2.b g2.s
    rw [List.length_map] at stop
    by_cases hlt : i < l.length
    · obtain ⟨go, yld⟩ := step i (enc l[i]) (by rw [List.getElem?_map, List.getElem?_eq_getElem hlt]; rfl)
      refine .inr ⟨go, fun H3 => i + 1 ≤ l.length ∧ ∃ Hb' acc, Gr Hb1 H1 Hb' H3 ∧ Hb' Dl = none ∧ H3 Dl = some (.lst acc) ∧ RpA K Hb' acc (((l.take (i + 1)).filter p).map f), fun H3 z => ⟨l.length - (i + 1), by omega, rfl, z⟩, fun x H3 hy => ?_⟩
      obtain ⟨Hb3, g3, rx⟩ := yld x H3 hy
      have hD3 : Hb3 Dl = none := g3.o _ hD1 (by rw [hD2]; simp)
      have hD4 : H3 Dl = some (.lst acc) := g3.h _ _ hD2
      have g13 := g2.trans g3
      obtain ⟨is, δ2, G, his, T, E⟩ := hs l[i] (List.getElem_mem hlt)
      refine G A _ Hb3 H3 x ((q.grow (g1.trans g13)).wipe vs) rx _ fun σ2 h2 wp => ⟨?_, ?_⟩
      · rw [wp vs his, wipe_idem]
      · refine T A σ2 Hb3 H3 h2 _ fun Hb4 H4 g4 => ?_
        have hD5 : Hb4 Dl = none := g4.o _ hD3 (by rw [hD4]; simp)
        have hD6 : H4 Dl = some (.lst acc) := g4.h _ _ hD4
        have tk : l.take (i + 1) = l.take i ++ [l[i]] := take_snoc (List.getElem?_eq_getElem hlt)
        have mutt : ∀ {Hb5 H5 : Hp} {o : HO}, Gr Hb1 H1 Hb5 H5 → Hb5 Dl = none → Gr Hb1 H1 Hb5 (upd H5 Dl o) := fun {Hb5 H5 o} gg hn =>
          ⟨gg.b, fun b u e => by rw [upd_ne (ne_of_none e hD)]; exact gg.h b u e, fun b u e => by rw [upd_ne (ne_of_none e hn)]; exact gg.s b u e, gg.o⟩
        cases hp : p l[i] with
        | false =>
          show i + 1 ≤ l.length ∧ _
          refine ⟨hlt, Hb4, acc, g13.trans g4, hD5, hD6, ?_⟩
          rw [tk, List.filter_append, List.filter_cons_of_neg (by rw [hp]; exact Bool.false_ne_true), List.filter_nil, List.append_nil]
          exact (ra.ext g3.b).ext g4.b
        | true =>
          show te σ2 H4 _
          refine E hp A σ2 Hb4 H4 (h2.grow g4) _ fun y Hb5 H5 g5 ry => ?_
          have hD7 : Hb5 Dl = none := g5.o _ hD5 (by rw [hD6]; simp)
          have hl : acc.length ≤ i := by
            rw [ra.len, List.length_map]
            refine Nat.le_trans (List.length_filter_le _ _) ?_
            rw [List.length_take]
            exact Nat.min_le_left _ _
          refine ⟨acc, g5.h _ _ hD6, szl5 (by omega), hlt, Hb5, acc ++ [y], mutt ((g13.trans g4).trans g5) hD7, hD7, upd_same, ?_⟩
          rw [tk, List.filter_append, List.filter_cons_of_pos hp, List.filter_nil, List.map_append]
          exact (((ra.ext g3.b).ext g4.b).ext g5.b).app (.one ry)
    · have e : i = l.length := by omega
      subst e
      refine .inl ⟨stop, k _ (upd Hb' Dl (.lst acc)) H' ?_ (.lst upd_same ?_)⟩
      · refine ⟨(g1.b.trans g2.b).trans (same_new hD1), g1.h.trans g2.h, fun b u e => ?_, fun a h1 h2 => ?_⟩
        · by_cases z : b = Dl
          · subst z
            rw [upd_same] at e
            cases e
            exact hD2
          · rw [upd_ne z] at e
            exact g2.s b u e
        · have z : a ≠ Dl := fun z => by
            subst z
            cases w : H a with
            | none => exact h2 w
            | some u =>
              have := g1.h a u w
              rw [hD] at this
              cases this
          rw [upd_ne z]
          exact g2.o a (g1.o a h1 h2) fun w => h2 (g1.h.free w)
      · rw [List.take_length] at ra
        exact ra.ext (same_new hD1)
variable {N : DS → Prop} {R : DS → D → Prop} {tb u : TS}
theorem sq_forM (hw : WI K wi δ (l.map enc)) (I : Nat → DS → Prop) (h0 : I 0 δ)
    (hs : ∀ (i : Nat) (x : α) (δ1 : DS), l[i]? = some x → I i δ1 → ∃ is δ2, GD K g is (enc x) δ1 δ2 ∧ SD K tb δ2 (I (i + 1)) R) (hd : ∀ δ1, I l.length δ1 → SD K u δ1 N R) : SD K (tSeq (tFor wi g tb) u) δ N R :=
  sq_for hw I h0 (fun i d δ1 h1 h2 => by
    obtain ⟨x, a1, a2, rfl⟩ := mapGet h1
    exact hs i x δ1 a1 h2) (by rw [List.length_map]; exact hd)
end
theorem le5 {ds : List D} (h : ds.length.ble 100000 = true) : ds.length ≤ 100000 := Nat.le_of_ble_eq_true h
/-- data by number lists -/
theorem rngN (n : Nat) : rngD 0 n = (List.range n).map nD := by
  unfold rngD nD
  apply List.map_congr_left
  intro i _
  rw [Int.zero_add]
section
variable {K : PySem.W.Frag} {δ : DS} {te : TE}
theorem cd_lenW {α : Type} {enc : α → D} {l : List α} : CD K (fun xs H Q => ∃ p ys, xs = [.ref p] ∧ (SqL K H p ys ∨ SqT K H p ys) ∧ Q (.int ys.length) H) [.tup (l.map enc)] (.int (l.length : Nat)) := by
  have h := cd_lenT (K := K) (ds := l.map enc)
  rwa [List.length_map] at h
theorem cd_lenWL {α : Type} {enc : α → D} {l : List α} : CD K (fun xs H Q => ∃ p ys, xs = [.ref p] ∧ (SqL K H p ys ∨ SqT K H p ys) ∧ Q (.int ys.length) H) [.lst (l.map enc)] (.int (l.length : Nat)) := by
  have h := cd_lenL (K := K) (ds := l.map enc)
  rwa [List.length_map] at h
theorem rd_listRgN {ta : TE} {n : Nat} (h : RD K ta δ (.int (n : Int))) (h1 : n ≤ 100000) : RD K (tLstRg (tRg1 ta)) δ (nsL (List.range n)) := rd_listRg1 h (Int.natCast_nonneg n) (by omega)
theorem wi_rngN {ta : TA} {n : Nat} (h : RA K ta δ [.int (n : Int)]) (h1 : n ≤ 100000) : WI K (iRng1 ta) δ ((List.range n).map nD) := by
  have := wi_rng1 h (by omega) (by omega)
  rwa [Int.toNat_natCast, rngN] at this
end
end K17
/-! slices, zips, targets that are fields, forms as data -/
namespace K17
open PySem L2 PySem.Spec PyProof.Rows
/-! ### slices -/
section
variable {α : Type} (l : List α)
def cutD (lo hi : Option Int) : List α := (l.drop (HT.sIx l.length 0 lo)).take (HT.sIx l.length l.length hi - HT.sIx l.length 0 lo)
theorem cut_from (k : Nat) : cutD l (some (k : Int)) none = l.drop k := by
  unfold cutD
  rw [HT.sIx_nat, HT.sIx_none]
  by_cases h : k ≤ l.length
  · rw [Nat.min_eq_left h, List.take_of_length_le (by rw [List.length_drop]; exact Nat.le_refl _)]
  · rw [Nat.min_eq_right (by omega), List.drop_length, List.drop_of_length_le (by omega), List.take_nil]
theorem cut_to (k : Nat) : cutD l none (some (k : Int)) = l.take k := by
  unfold cutD
  rw [HT.sIx_nat, HT.sIx_none, List.drop_zero, Nat.sub_zero]
  by_cases h : k ≤ l.length
  · rw [Nat.min_eq_left h]
  · rw [Nat.min_eq_right (by omega), List.take_length, List.take_of_length_le (by omega)]
theorem sIx_m1 (n d : Nat) : HT.sIx n d (some (-1)) = n - 1 := by
  show (if (-1 : Int) < 0 then ((-1 : Int) + (n : Int)).toNat else min ((-1 : Int)).toNat n) = n - 1
  rw [if_pos (by decide)]
  omega
theorem cut_last (d : α) (h : l ≠ []) : cutD l (some (-1)) none = [l.getLastD d] := by
  unfold cutD
  rw [sIx_m1, HT.sIx_none]
  have hp := List.length_pos_iff.mpr h
  have e : l.drop (l.length - 1) = [l.getLast h] := by
    conv => lhs; rw [← List.dropLast_concat_getLast h]
    rw [List.drop_append_of_le_length (by simp), List.drop_of_length_le (by simp)]
    rfl
  rw [e, List.take_of_length_le (by rw [List.length_singleton]; omega)]
  congr 1
  rw [List.getLastD_eq_getLast?, List.getLast?_eq_some_getLast h]
  rfl
theorem cut_but : cutD l none (some (-1)) = l.dropLast := by
  unfold cutD
  rw [sIx_m1, HT.sIx_none, List.drop_zero, Nat.sub_zero, List.dropLast_eq_take]
theorem cut_map {β : Type} (f : α → β) (lo hi : Option Int) : cutD (l.map f) lo hi = (cutD l lo hi).map f := by
  unfold cutD
  rw [List.length_map, List.map_take, List.map_drop]
end
theorem zipD_map {α β : Type} (f : α → D) (g : β → D) : ∀ (as : List α) (bs : List β), zipD (as.map f) (bs.map g) = (as.zip bs).map fun p => D.tup [f p.1, g p.2]
  | [], _ => rfl
  | _ :: _, [] => rfl
  | a :: as, b :: bs => by
    show D.tup [f a, g b] :: zipD (as.map f) (bs.map g) = _
    rw [zipD_map f g as bs]
    rfl
section
variable {K : PySem.W.Frag} {δ δ1 δ2 : DS} {te : TE} {tl th : TO} {l u : Option Int} {α : Type} {xs ys : List α} {f : α → D} {N : DS → Prop} {R : DS → D → Prop}
theorem rd_slLM (h : RD K te δ (.lst (xs.map f))) (hl : RO K tl δ l) (hu : RO K th δ u) (e : cutD xs l u = ys) : RD K (tSl (rSlL K) te tl th) δ (.lst (ys.map f)) := by
  subst e
  rw [← cut_map]
  exact rd_slL h hl hu
theorem rd_slTM (h : RD K te δ (.tup (xs.map f))) (hl : RO K tl δ l) (hu : RO K th δ u) (e : cutD xs l u = ys) : RD K (tSl (rSlA K) te tl th) δ (.tup (ys.map f)) := by
  subst e
  rw [← cut_map]
  exact rd_slT h hl hu
/-! ### targets that are fields of an owned instance -/
def GM (K : PySem.W.Frag) (g : TG) (d : D) (δ δ' : DS) : Prop :=
  ∀ (A : Hp × Hp) (σ : L2.St) (Hb H : Hp) (v : V), At K A Hb H σ δ → Rp K Hb v d → ∀ Q : L2.St → Hp → Prop, (∀ H', At K A Hb H' σ δ' → (∀ a xs, H a = some (.tup xs) → H' a = some (.tup xs)) → Q σ H') → g v σ H Q
def GMs (K : PySem.W.Frag) (g : TGs) (ds : List D) (δ δ' : DS) : Prop :=
  ∀ (A : Hp × Hp) (σ : L2.St) (Hb H : Hp) (vs : List V), At K A Hb H σ δ → RpA K Hb vs ds → ∀ Q : L2.St → Hp → Prop, (∀ H', At K A Hb H' σ δ' → (∀ a xs, H a = some (.tup xs) → H' a = some (.tup xs)) → Q σ H') → g vs σ H Q
theorem gm_fld {i : Nat} {C a : Addr} {fl : Str} {gs : List (Str × D)} {d : D} (c : Cls K C) (na : NoAttr K C fl) (hi : δ[i]? = some (.ownI a C gs)) (hz : gs.length < 1000) : GM K (gFld K (tVar i) fl) d δ (δ.set i (.ownI a C (putD fl d gs))) := fun A σ Hb H v q r Q k => by
  obtain ⟨o, h1, h2, h3, h4, dx, xs, h5, h6⟩ := q.sl i _ hi
  subst h2
  refine ⟨_, h1, a, C, dx, xs, rfl, h5, c, na, by rw [h6.len]; exact hz, ?_⟩
  refine k _ (q.mut hi rfl rfl h1 ?_) fun b ys hb => ?_
  · exact ⟨rfl, h3, h4, dx, _, upd_same, h6.put r⟩
  · rw [upd_ne (fun z => by rw [z, h5] at hb; cases hb)]
    exact hb
theorem gms_nil : GMs K gNil [] δ δ := fun A σ Hb H vs h r Q k => by
  cases r
  exact ⟨rfl, k H h fun _ _ z => z⟩
theorem gms_cons {g : TG} {t : TGs} {d : D} {ds : List D} (h1 : GM K g d δ δ1) (h2 : GMs K t ds δ1 δ2) : GMs K (gCons g t) (d :: ds) δ δ2 := fun A σ Hb H vs h r Q k => by
  cases r with
  | cons r rr => exact ⟨_, _, rfl, h1 A σ Hb H _ h r _ fun H1 h3 w1 => h2 A σ Hb H1 _ h3 rr Q fun H2 h4 w2 => k H2 h4 fun a xs z => w2 a xs (w1 a xs z)⟩
theorem sd_asgM {n : Nat} {t : TGs} {ds : List D} (h : RD K te δ (.tup ds)) (hg : GMs K t ds δ δ1) (hl : ds.length = n) (nn : N δ1) : SD K (tAsg te (gTup K n t)) δ N R := fun A σ Hb H q Dn kn kr =>
  h A σ Hb H q _ fun v Hb1 H1 g1 r1 => by
    cases r1 with
    | tup hx r => exact ⟨_, _, rfl, SqT.of (g1.s _ _ hx), r.len.trans hl, hg A σ Hb1 H1 _ (q.grow g1) r _ fun H2 q2 _ => kn _ _ Hb1 H2 nn g1.b q2⟩
end
/-! ### what a form is worth as data -/
theorem py_nsT (l : List Nat) : (nsT l).py = .tuple (l.map fun (n : Nat) => .int (n : Int)) := by
  show PyData.tuple (D.pyL (l.map nD)) = _
  rw [pyL_map]
  rfl
theorem plain_nsT (l : List Nat) : (nsT l).plain = true := plainL_map _ _ fun _ _ => rfl
theorem canN (l : List Nat) : PyData.canLayAll0 (l.map fun (n : Nat) => PyData.int (n : Int)) = true := canLay_map _ _ fun _ _ => rfl
theorem depN (l : List Nat) : PyData.depthAll (l.map fun (n : Nat) => PyData.int (n : Int)) ≤ 0 := depth_map _ _ _ fun _ _ => Nat.le_refl _
theorem eqvN : ∀ as bs : List Nat, PyData.eqvAll (as.map fun (n : Nat) => PyData.int (n : Int)) (bs.map fun (n : Nat) => PyData.int (n : Int)) = decide (as = bs)
  | [], [] => rfl
  | [], b :: bs => rfl
  | a :: as, [] => rfl
  | a :: as, b :: bs => by
    show (((a : Int) == (b : Int)) && PyData.eqvAll (as.map fun (n : Nat) => PyData.int (n : Int)) (bs.map fun (n : Nat) => PyData.int (n : Int))) = _
    rw [eqvN as bs]
    apply Bool.eq_iff_iff.mpr
    simp
    intro _
    omega
theorem py_fm (f : Fm) : (fmD f).py = .tuple [.tuple (f.early.map fun (n : Nat) => .int (n : Int)), .int (f.start : Int), .int (f.period : Int), .tuple (f.later.map fun (n : Nat) => .int (n : Int))] := by
  show PyData.tuple [(nsT f.early).py, _, _, (nsT f.later).py] = _
  rw [py_nsT, py_nsT]
  rfl
theorem plain_fm (f : Fm) : (fmD f).plain = true := by
  show ((nsT f.early).plain && (true && (true && ((nsT f.later).plain && true)))) = true
  rw [plain_nsT, plain_nsT]
  rfl
theorem shaped_fm (f : Fm) : SeqAt.shaped (fmD f).py = true := by
  rw [py_fm]
  unfold SeqAt.shaped
  rw [Bool.and_eq_true]
  constructor
  · show (PyData.canLayAll0 _ && (true && (true && (PyData.canLayAll0 _ && true)))) = true
    rw [canN, canN]
    rfl
  · apply decide_eq_true
    show max (PyData.depthAll _ + 1) (max 0 (max 0 (max (PyData.depthAll _ + 1) 0))) + 1 ≤ 64
    have h1 := depN f.early
    have h2 := depN f.later
    omega
theorem eqv_fm (f g : Fm) : PyData.eqv (fmD f).py (fmD g).py = decide (f = g) := by
  rw [py_fm, py_fm]
  show (PyData.eqvAll _ _ && (((f.start : Int) == (g.start : Int)) && (((f.period : Int) == (g.period : Int)) && (PyData.eqvAll _ _ && true)))) = _
  rw [eqvN, eqvN]
  apply Bool.eq_iff_iff.mpr
  cases f
  cases g
  simp [and_assoc]
  intro _
  constructor <;> rintro ⟨h1, h2, h3⟩ <;> exact ⟨by omega, by omega, h3⟩
theorem od_eqFm {K : PySem.W.Frag} {f g : Fm} : OD K (rEqD K) (fmD f) (fmD g) (.bl (decide (f = g))) := by
  have h := od_eqD (K := K) (plain_fm f) (plain_fm g) (shaped_fm f) (shaped_fm g)
  rwa [eqv_fm] at h
theorem inN {n : Nat} {l : List Nat} : decide ((n : Int) ∈ l.map fun (n : Nat) => (n : Int)) = decide (n ∈ l) := by
  apply decide_eq_decide.mpr
  constructor
  · intro h
    obtain ⟨m, h1, h2⟩ := List.mem_map.mp h
    have : m = n := by omega
    exact this ▸ h1
  · intro h
    exact List.mem_map.mpr ⟨n, h, rfl⟩
theorem od_inN {K : PySem.W.Frag} {n : Nat} {l : List Nat} : OD K (rIn K false) (.int (n : Int)) (.tup (l.map nD)) (.bl (decide (n ∈ l))) := by
  have h := od_inT (K := K) (i := (n : Int)) (ns := l.map fun (n : Nat) => (n : Int))
  rw [inN] at h
  rw [nI_map]
  exact h
/-! ### name = {k: v for ..} -/
section
variable {X : Cx}
theorem ps_setDc {i : Nat} {y : Str} {py : Pos} {kx vx tg iter : Expr} {ifs : List Expr} {scope : Scope} {own : List (Str × Nat)} {pos spos : Pos} {wi : TI} {g : TG} {tt : TT} {tk tv : TE} (hc : X.calm = true) (hN : X.N.Nodup) (hy : X.N[i]? = some y) (hyl : X.env.scope.names.lookup y = some .local)
    (hsw : swapsWith (.DictComp kx vx [⟨tg, iter, ifs, 0⟩] scope pos) (some (.Name y py)) spos.line X.env = pure true) (hi : PI X tg iter wi) (ok : BlkOk X.N X.env.scope scope own)
    (hg : ∀ (s : Shared) (H : Hp) (C : Addr) (cl : List (Str × Addr)) (fp : List Addr), PG (X.blk s H scope (compEnvC scope cl C X.env) fp) tg g) (ht : ∀ (s : Shared) (H : Hp) (C : Addr) (cl : List (Str × Addr)) (fp : List Addr), PTs (X.blk s H scope (compEnvC scope cl C X.env) fp) ifs tt)
    (hk : ∀ (s : Shared) (H : Hp) (C : Addr) (cl : List (Str × Addr)) (fp : List Addr), PE (X.blk s H scope (compEnvC scope cl C X.env) fp) kx tk)
    (he : ∀ (s : Shared) (H : Hp) (C : Addr) (cl : List (Str × Addr)) (fp : List Addr), PE (X.blk s H scope (compEnvC scope cl C X.env) fp) vx tv) (hs : ∀ x, foldedSetIterable iter X.env x = pure x := by intro _; rfl) :
    PS X (.Assign [.Name y py] (.DictComp kx vx [⟨tg, iter, ifs, 0⟩] scope pos) spos) (tAsg (tDc wi g tt tk tv (own.map (·.2))) (gName i)) := by
  refine ⟨fun pins s σ H D I h => ?_⟩
  rw [exec_Assign_Name_used _ _ _ _ hsw]
  refine wpAny_bind (wpAny_standAt (wpAny_bind ?_))
  show wpAny _ X.A (do let _ ← comprehension (.DictComp kx vx [⟨tg, iter, ifs, 0⟩] scope pos) scope X.env (firstIterPos [⟨tg, iter, ifs, 0⟩] pos) newDict false (eval iter X.env) (some (assign (.Name y py) X.env))) _ _ s
  have h : tDc wi g tt tk tv (own.map (·.2)) σ H (fun x H1 => gName i x σ H1 D.nx) := h
  refine wpAny_bind (thn (dc_core (Qf := fun _ s' => SP X pins D .next s') hc hN I hi ok hg ht hk he hs h fun L C s' m H' I' q hn f => ?_) fun _ s' hq => wpAny_pure (wpAny_pure hq))
  show wpAny _ _ (assign (.Name y py) X.env (.ref L)) _ _ _
  refine wpAny_assign_Name (store_ok2 (v := V.ref L) I' hN hy (.inl hyl) rfl (fun s2 I2 ⟨a, sb, ha⟩ => ?_) (.inr hyl))
  obtain ⟨f0, f1, f2, f3, f4, f5⟩ := f
  have haC : C ≠ a := by
    rcases ha with z | z
    · rw [z]; exact f1
    · exact fun e => f4 y a z e.symm
  refine ⟨m, hn.sameBut sb haC, fun h3 sb3 => ?_⟩
  exact ⟨_, H', I2.turned (t' := s2.toks) (fun b o hb e => (sb3.2 b hb).trans e) f0 f1 f3 f4 f5, q⟩
theorem sw_trueD {kx vx : Expr} {gs : List Comprehension} {scope : Scope} {pos py : Pos} {y : Str} {l : Nat} {env : Env} (hk : env.scope.kind = .function) (hy : env.scope.names.lookup y = some .local) (hl : (py.line == pos.line) = true)
    (ha : (scope.names.any fun (n, k) => n == y && (k == .local || k == .cell)) = false) : swapsWith (.DictComp kx vx gs scope pos) (some (.Name y py)) l env = pure true := by
  have ky : env.kindOf y = some .local := hy
  have hb : env.blockKind = .function := by unfold Env.blockKind; rw [hk]; rfl
  unfold swapsWith
  simp only [hb, ky, ha, Expr.pos, hl]
  rfl
end
end K17
/-! the walk: kinds -/
namespace K17
open PySem L2 PySem.Spec PyProof.Rows
section
variable {P : Program} {w : World} {K : PySem.W.Frag} {mg : Str → Option Value} {base : Heap} {kd CS CR CP : Addr}
theorem od_leS {i j : Str} : OD K (fun x y H Q => ∃ i j, x = .str i ∧ y = .str j ∧ Q (.bl (!decide (j.cps.toList < i.cps.toList))) H) (.str i) (.str j) (.bl (!decide (j.cps.toList < i.cps.toList))) := fun x y Hb H s rx ry Q k => by
  cases rx
  cases ry
  exact ⟨i, j, rfl, rfl, k _ Hb H (.refl s) (.bl _)⟩
inductive P_is_kind : List D → D → Prop
  | mk (k : Kd) : P_is_kind [.str k.str] (.bl true)
inductive P_is_yarn : List D → D → Prop
  | mk : P_is_yarn [.str "a"] (.bl true)
inductive P_is_cell : List D → D → Prop
  | mk (k : Kd) : P_is_cell [cellD k] (.bl true)
inductive P_is_word : List D → D → Prop
  | mk (w : Wd) (h : w.length ≤ 9999) : P_is_word [wD w] (.bl true)
inductive P_takes : List D → D → Prop
  | mk (w : Wd) (h : w.length ≤ 9999) : P_takes [wD w] (nD (tkW w))
inductive P_behind : List D → D → Prop
  | mk (w : Wd) (h : w.length ≤ 9999) : P_behind [wD w] (wD (bkW w))
abbrev s_is_kind : Stmt := topS 10
theorem sc_is_kind : FnScope ["thing"] ["thing"] (defScope s_is_kind) := ⟨rfl, rfl, rfl, by decide +kernel, rfl, by decide +kernel, by decide +kernel⟩
theorem ok_is_kind {f : Addr} {fd : FuncData} (F : Fun K "is_kind" "is_kind" s_is_kind f fd) (T : Txt K w mg kd CS CR CP)   : FnOk P w K mg base CX0 1 f fd ["thing"] (spF K (P_is_kind)) := by
  have sc := sc_is_kind
  refine fnD F sc (fun ds d h => by cases h; rfl) fun cdv A outer s H E hr => ⟨_,
    (pss_one (ps_ret (pe_and (pe_callB call_isi (by rfl) T.n_isinstance (by decide +kernel) (pa_cons (pv 0) (pa_cons (pe_bltn (v := .ty "str") (by rfl) T.n_str (by decide +kernel) rfl) pa_nil))) (pe_one (pe_cmpR (op_inKdT T.kdict) (pv 0) (pe_glob (v := .ref kd) rfl T.g_KINDS rfl) (by first | exact nomark _ | rfl)))))), fun ds d h => ?_⟩
  obtain ⟨k⟩ := h
  exact sd_ret (rd_and (rd_isi (rd_var rfl) rfl rfl) fun _ => rd_inKd (rd_var rfl) (T.kat k)) rfl
abbrev s_is_yarn : Stmt := topS 11
theorem sc_is_yarn : FnScope ["thing"] ["thing"] (defScope s_is_yarn) := ⟨rfl, rfl, rfl, by decide +kernel, rfl, by decide +kernel, by decide +kernel⟩
theorem ok_is_yarn {f : Addr} {fd : FuncData} (F : Fun K "is_yarn" "is_yarn" s_is_yarn f fd) (T : Txt K w mg kd CS CR CP)   : FnOk P w K mg base CX0 1 f fd ["thing"] (spF K (P_is_yarn)) := by
  have sc := sc_is_yarn
  refine fnD F sc (fun ds d h => by cases h; rfl) fun cdv A outer s H E hr => ⟨_,
    (pss_one (ps_ret (pe_and (pe_callB call_isi (by rfl) T.n_isinstance (by decide +kernel) (pa_cons (pv 0) (pa_cons (pe_bltn (v := .ty "str") (by rfl) T.n_str (by decide +kernel) rfl) pa_nil))) (pe_and (pe_cmpR op_eq (pe_callB call_len_str (by rfl) T.n_len PySem.boot_len (pa_cons (pv 0) pa_nil)) pe_int (by first | exact nomark _ | rfl)) (pe_one (pe_chain op_le_str op_le_str pe_str (pv 0) pe_str)))))), fun ds d h => ?_⟩
  obtain ⟨⟩ := h
  refine sd_ret (rd_and (rd_isi (rd_var rfl) rfl rfl) fun _ => rd_and (rd_op (rd_cb (ra_one (rd_var rfl)) (cd_lenStr (by decide))) rd_int od_eqI) fun _ => rd_chain rd_str (rd_var rfl) od_leS (fun _ => rd_str) fun _ => od_leS) ?_
  rfl
abbrev s_is_cell : Stmt := topS 12
theorem sc_is_cell : FnScope ["thing"] ["thing"] (defScope s_is_cell) := ⟨rfl, rfl, rfl, by decide +kernel, rfl, by decide +kernel, by decide +kernel⟩
theorem ok_is_cell {f : Addr} {fd : FuncData} (F : Fun K "is_cell" "is_cell" s_is_cell f fd) (T : Txt K w mg kd CS CR CP) (c_is_kind : C8.Cal P w K mg base 1 "is_kind" (spF K (P_is_kind)) []) (c_is_yarn : C8.Cal P w K mg base 1 "is_yarn" (spF K (P_is_yarn)) [])  : FnOk P w K mg base CX0 2 f fd ["thing"] (spF K (P_is_cell)) := by
  have sc := sc_is_cell
  refine fnD F sc (fun ds d h => by cases h; rfl) fun cdv A outer s H E hr => ⟨_,
    (pss_one (ps_ret (pe_and (pe_callB call_isi (by rfl) T.n_isinstance (by decide +kernel) (pa_cons (pv 0) (pa_cons (pe_bltn (v := .ty "tuple") (by rfl) T.n_tuple (by decide +kernel) rfl) pa_nil))) (pe_and (pe_cmpR op_eq (pe_callB call_len_seq (by rfl) T.n_len PySem.boot_len (pa_cons (pv 0) pa_nil)) pe_int (by first | exact nomark _ | rfl)) (pe_and (C8.pe_c c_is_kind hr (by decide) rfl (pa_cons (pe_ix (ix_tupK K) (pv 0) pe_int (fun _ _ => rfl)) pa_nil)) (pe_one (C8.pe_c c_is_yarn hr (by decide) rfl (pa_cons (pe_ix (ix_tupK K) (pv 0) pe_int (fun _ _ => rfl)) pa_nil)))))))), fun ds d h => ?_⟩
  obtain ⟨k⟩ := h
  exact sd_ret (rd_and (rd_isi (rd_var rfl) rfl rfl) fun _ => rd_and (rd_op (rd_cb (ra_one (rd_var rfl)) cd_lenT) rd_int od_eqI) fun _ => rd_and (rd_call (ra_one (rd_op (rd_var rfl) rd_int (od_ixT rfl))) (.mk k)) fun _ =>
    rd_call (ra_one (rd_op (rd_var rfl) rd_int (od_ixT rfl))) .mk) rfl
abbrev s_is_word : Stmt := topS 13
theorem sc_is_word : FnScope ["thing", "cell"] ["thing"] (defScope s_is_word) := ⟨rfl, rfl, rfl, by decide +kernel, rfl, by decide +kernel, by decide +kernel⟩
theorem ok_is_word {f : Addr} {fd : FuncData} (F : Fun K "is_word" "is_word" s_is_word f fd) (T : Txt K w mg kd CS CR CP) (c_is_cell : C8.Cal P w K mg base 2 "is_cell" (spF K (P_is_cell)) [])  : FnOk P w K mg base CX0 3 f fd ["thing"] (spF K (P_is_word)) := by
  have sc := sc_is_word
  refine fnD F sc (fun ds d h => by cases h; rfl) fun cdv A outer s H E hr => ⟨_,
    (pss_one (ps_ret (pe_and (pe_callB call_isi (by rfl) T.n_isinstance (by decide +kernel) (pa_cons (pv 0) (pa_cons (pe_bltn (v := .ty "tuple") (by rfl) T.n_tuple (by decide +kernel) rfl) pa_nil))) (pe_one (pe_callB (cr_allK K rfl) (by rfl) T.n_all (by decide +kernel) (pa_cons (pe_lc (own := [("cell", 1)]) (g := (gName 1)) (tt := tYes) rfl sc.nd (pi_tupK K (pv 0)) (blkOk_by (N := ["thing", "cell"]) (sc := defScope s_is_word) (by decide +kernel)) (fun _ _ _ _ _ => (pg_name (i := 1) sc.nd rfl (Or.inl rfl))) (fun _ _ _ _ _ => pts_nil) (fun _ _ _ _ _ => (C8.pe_c c_is_cell hr (by decide) rfl (pa_cons (pv 1) pa_nil)))) pa_nil)))))), fun ds d h => ?_⟩
  obtain ⟨w, hw⟩ := h
  refine sd_ret (rd_and (rd_isi (rd_var rfl) rfl rfl) fun _ => rd_cb (ra_one (rd_eq (rd_lcM (enc := cellD) (f := fun k => .bl true) (wi_tup (rd_var rfl)) (by omega) fun k _ => ⟨_, _, gd_name, by decide, ?_⟩) ?_)) (cd_all (bs := w.map fun k => true))) ?_
  · exact rd_call (ra_one (rd_var rfl)) (.mk k)
  · rw [List.map_map]
    rfl
  · rw [List.all_map]
    show D.bl _ = D.bl _
    congr 1
    rw [Bool.true_and]
    exact List.all_eq_true.mpr fun _ _ => rfl
theorem sumI (l : List Nat) : (l.map fun (n : Nat) => (n : Int)).sum = (l.sum : Nat) := by
  induction l with
  | nil => rfl
  | cons a l ih => rw [List.map_cons, List.sum_cons, List.sum_cons, ih]; omega
abbrev s_takes : Stmt := topS 14
theorem sc_takes : FnScope ["word", "kind", "yarn"] ["word"] (defScope s_takes) := ⟨rfl, rfl, rfl, by decide +kernel, rfl, by decide +kernel, by decide +kernel⟩
theorem ok_takes {f : Addr} {fd : FuncData} (F : Fun K "takes" "takes" s_takes f fd) (T : Txt K w mg kd CS CR CP)   : FnOk P w K mg base CX0 1 f fd ["word"] (spF K (P_takes)) := by
  have sc := sc_takes
  refine fnD F sc (fun ds d h => by cases h; rfl) fun cdv A outer s H E hr => ⟨_,
    (pss_one (ps_ret (pe_callB (cr_sum rfl) (by rfl) T.n_sum (by decide +kernel) (pa_cons (pe_lc (own := [("kind", 1), ("yarn", 2)]) (g := (gTup K 2 (gCons (gName 1) (gCons (gName 2) gNil)))) (tt := tYes) rfl sc.nd (pi_tupK K (pv 0)) (blkOk_by (N := ["word", "kind", "yarn"]) (sc := defScope s_takes) (by decide +kernel)) (fun _ _ _ _ _ => (pg_tup rfl (pgs_cons (pg_name (i := 1) sc.nd rfl (Or.inl rfl)) (pgs_cons (pg_name (i := 2) sc.nd rfl (Or.inl rfl)) pgs_nil)))) (fun _ _ _ _ _ => pts_nil) (fun _ _ _ _ _ => (pe_ix (ix_tupK K) (pe_ix (ix_kdT T.kdict) (pe_glob (v := .ref kd) rfl T.g_KINDS rfl) (pv 1) (fun _ _ => rfl)) pe_int (fun _ _ => rfl)))) pa_nil)))), fun ds d h => ?_⟩
  obtain ⟨w, hw⟩ := h
  refine sd_ret ?_ rfl
  refine rd_eq (rd_cb (ra_one (rd_eq (rd_lcM (enc := cellD) (f := fun k => nD k.tk) (wi_tup (rd_var rfl)) (by omega) fun k _ => ⟨_, _, gd_tup2, by decide, ?_⟩) ?_)) (cd_sum (ns := w.map fun k => (k.tk : Int)))) ?_
  · exact rd_kix (rd_var rfl) (T.kat k) rfl fun _ => .int _
  · rw [List.map_map]
    rfl
  · show D.int _ = D.int _
    rw [tkW, ← sumI, List.map_map]
    rfl
abbrev s_behind : Stmt := topS 15
theorem sc_behind : FnScope ["word", "kind", "yarn"] ["word"] (defScope s_behind) := ⟨rfl, rfl, rfl, by decide +kernel, rfl, by decide +kernel, by decide +kernel⟩
theorem ok_behind {f : Addr} {fd : FuncData} (F : Fun K "behind" "behind" s_behind f fd) (T : Txt K w mg kd CS CR CP)   : FnOk P w K mg base CX0 1 f fd ["word"] (spF K (P_behind)) := by
  have sc := sc_behind
  refine fnD F sc (fun ds d h => by cases h; rfl) fun cdv A outer s H E hr => ⟨_,
    (pss_one (ps_ret (pe_callTy (call_tupleK K) (by rfl) T.n_tuple (by decide +kernel) (pa_cons (pe_lc (own := [("kind", 1), ("yarn", 2)]) (g := (gTup K 2 (gCons (gName 1) (gCons (gName 2) gNil)))) (tt := tYes) rfl sc.nd (pi_tupK K (pe_revT (pv 0))) (blkOk_by (N := ["word", "kind", "yarn"]) (sc := defScope s_behind) (by decide +kernel)) (fun _ _ _ _ _ => (pg_tup rfl (pgs_cons (pg_name (i := 1) sc.nd rfl (Or.inl rfl)) (pgs_cons (pg_name (i := 2) sc.nd rfl (Or.inl rfl)) pgs_nil)))) (fun _ _ _ _ _ => pts_nil) (fun _ _ _ _ _ => (pe_tup (pa_cons (pe_ix (ix_tupK K) (pe_ix (ix_kdT T.kdict) (pe_glob (v := .ref kd) rfl T.g_KINDS rfl) (pv 1) (fun _ _ => rfl)) pe_int (fun _ _ => rfl)) (pa_cons (pv 2) pa_nil))))) pa_nil)))), fun ds d h => ?_⟩
  obtain ⟨w, hw⟩ := h
  refine sd_ret (rd_eq (rd_cb (ra_one (rd_lcM (enc := cellD) (f := fun k => cellD k.bk) (l := w.reverse) (wi_tup (rd_eq (rd_revT (rd_var rfl)) ?_)) (by rw [List.length_reverse]; omega) fun k _ => ⟨_, _, gd_tup2, by decide, ?_⟩)) cd_tupleL) ?_) rfl
  · rw [List.map_reverse]
  · exact rd_tup (ra_cons (rd_kix (rd_var rfl) (T.kat k) rfl fun _ => .str _) (ra_one (rd_var rfl))) (le5 rfl)
  · show D.tup _ = D.tup _
    rw [bkW, List.map_map]
    rfl
end
end K17
/-! the walk: sets of sizes -/
namespace K17
open PySem L2 PySem.Spec PyProof.Rows
section
variable {P : Program} {w : World} {K : PySem.W.Frag} {mg : Str → Option Value} {base : Heap} {kd CS CR CP : Addr}
def opS (b : Bool) : Str := if b then "and" else "less"
def opF (b : Bool) : Bool → Bool → Bool := if b then opAnd else opLess
inductive P_is_number : List D → D → Prop
  | mk (n : Int) : P_is_number [.int n] (.bl true)
inductive P__are_numbers : List D → D → Prop
  | mk (l : List Nat) (hi : Nat) (h1 : l.length ≤ 5000) (h2 : ∀ x ∈ l, x < hi) (h3 : l.Pairwise (· < ·)) : P__are_numbers [nsT l, .int 0, nD hi] (.bl true)
inductive P__least_period : List D → D → Prop
  | mk (m : List Bool) (h : m.length ≤ 5000) : P__least_period [bsL m] (nD (leastP m))
inductive P_least_form : List D → D → Prop
  | mk (f : Fm) (h : f.Wf) : P_least_form [nsT f.early, nD f.start, nD f.period, nsT f.later] (fmD f.least)
inductive P_Sizes___init__ : List D → List (Str × D) → Prop
  | mk (f : Fm) (h : f.Wf) : P_Sizes___init__ [nsT f.early, nD f.start, nD f.period, nsT f.later] (szG f.least)
inductive P_Sizes___eq__ (CS : Addr) : List D → D → Prop
  | mk (f g : Fm) : P_Sizes___eq__ CS [szD CS f, szD CS g] (.bl (decide (f = g)))
inductive P_Sizes___contains__ (CS : Addr) : List D → D → Prop
  | mk (f : Fm) (n : Nat) (h : 0 < f.period) : P_Sizes___contains__ CS [szD CS f, nD n] (.bl (f.mem n))
inductive P_Sizes___bool__ (CS : Addr) : List D → D → Prop
  | mk (f : Fm) : P_Sizes___bool__ CS [szD CS f] (.bl f.some)
inductive P_common : List D → D → Prop
  | mk (a b : Nat) (h1 : 0 < a) (h3 : 0 < b) (h4 : b ≤ 1000000) : P_common [nD a, nD b] (nD (Nat.lcm a b))
structure MOk (f : Fm) : Prop where
  p0 : 0 < f.period
  el : f.early.length ≤ 5000
  ll : f.later.length ≤ 5000
theorem Fm.Wf.mok {f : Fm} (h : f.Wf) : MOk f := ⟨h.p0, Nat.le_trans h.el (by decide), Nat.le_trans h.ll (by decide)⟩
inductive P_marks_of : List D → D → Prop
  | mk (f : Fm) (n : Nat) (h : MOk f) (h2 : n ≤ 5000) : P_marks_of [fmD f, nD n] (bsL (marksOf f n))
inductive P_set_form : List D → D → Prop
  | mk (f g : Fm) (b : Bool) (h : f.Wf) (h2 : g.Wf) (h3 : Nat.lcm f.period g.period ≤ 64) : P_set_form [fmD f, fmD g, .str (opS b)] (fmD (setForm (opF b) f g))
structure SOk (f g : Fm) : Prop where
  wf : f.Wf
  wg : g.Wf
  lc : Nat.lcm f.period g.period ≤ 64
  st : max f.start g.start ≤ 1900
inductive P_Sizes___and__ (CS : Addr) : List D → D → Prop
  | mk (f g : Fm) (h : SOk f g) : P_Sizes___and__ CS [szD CS f, szD CS g] (szD CS (sAnd f g))
inductive P_Sizes___sub__ (CS : Addr) : List D → D → Prop
  | mk (f g : Fm) (h : SOk f g) : P_Sizes___sub__ CS [szD CS f, szD CS g] (szD CS (sSub f g))
inductive P_Sizes_within (CS : Addr) : List D → D → Prop
  | mk (f g : Fm) (h : SOk f g) : P_Sizes_within CS [szD CS f, szD CS g] (.bl (within f g))
inductive P_from_marks (CS : Addr) : List D → D → Prop
  | mk (m : List Bool) (p : Nat) (h0 : 0 < p) (h1 : p ≤ 64) (h2 : p ≤ m.length) (h3 : m.length ≤ 2000) : P_from_marks CS [bsL m, nD p] (szD CS (fromM m p).least)
inductive P_all_sizes (CS : Addr) : List D → D → Prop
  | mk : P_all_sizes CS [] (szD CS allF)
inductive P_from_on (CS : Addr) : List D → D → Prop
  | mk (n : Nat) (h : n ≤ 1000) : P_from_on CS [nD n] (szD CS (fromOn n))
abbrev s_is_number : Stmt := topS 18
theorem sc_is_number : FnScope ["thing"] ["thing"] (defScope s_is_number) := ⟨rfl, rfl, rfl, by decide +kernel, rfl, by decide +kernel, by decide +kernel⟩
theorem ok_is_number {f : Addr} {fd : FuncData} (F : Fun K "is_number" "is_number" s_is_number f fd) (T : Txt K w mg kd CS CR CP)   : FnOk P w K mg base CX0 1 f fd ["thing"] (spF K (P_is_number)) := by
  have sc := sc_is_number
  refine fnD F sc (fun ds d h => by cases h; rfl) fun cdv A outer s H E hr => ⟨_,
    (pss_one (ps_ret (pe_and (pe_callB call_isi (by rfl) T.n_isinstance (by decide +kernel) (pa_cons (pv 0) (pa_cons (pe_bltn (v := .ty "int") (by rfl) T.n_int (by decide +kernel) rfl) pa_nil))) (pe_one (pe_not (pe_callB call_isi (by rfl) T.n_isinstance (by decide +kernel) (pa_cons (pv 0) (pa_cons (pe_bltn (v := .ty "bool") (by rfl) T.n_bool (by decide +kernel) rfl) pa_nil)))))))), fun ds d h => ?_⟩
  obtain ⟨n⟩ := h
  exact sd_ret (rd_and (rd_isi (rd_var rfl) rfl rfl) fun _ => rd_not (rd_isi (rd_var rfl) rfl rfl)) rfl
abbrev s__are_numbers : Stmt := topS 19
theorem sc__are_numbers : FnScope ["thing", "low", "high", "one", "late"] ["thing", "low", "high"] (defScope s__are_numbers) := ⟨rfl, rfl, rfl, by decide +kernel, rfl, by decide +kernel, by decide +kernel⟩
theorem ok__are_numbers {f : Addr} {fd : FuncData} (F : Fun K "_are_numbers" "_are_numbers" s__are_numbers f fd) (T : Txt K w mg kd CS CR CP) (c_is_number : C8.Cal P w K mg base 1 "is_number" (spF K (P_is_number)) [])  : FnOk P w K mg base CX0 2 f fd ["thing", "low", "high"] (spF K (P__are_numbers)) := by
  have sc := sc__are_numbers
  refine fnD F sc (fun ds d h => by cases h; rfl) fun cdv A outer s H E hr => ⟨_,
    (pss_cons (ps_if (PW.pt (pw_or (pt_not (pt_val (pe_callB call_isi (by rfl) T.n_isinstance (by decide +kernel) (pa_cons (pv 0) (pa_cons (pe_bltn (v := .ty "tuple") (by rfl) T.n_tuple (by decide +kernel) rfl) pa_nil))))) (pw_or1 (pt_not (pt_val (pe_callB (cr_allK K rfl) (by rfl) T.n_all (by decide +kernel) (pa_cons (pe_lc (own := [("one", 3)]) (g := (gName 3)) (tt := tYes) rfl sc.nd (pi_tupK K (pv 0)) (blkOk_by (N := ["thing", "low", "high", "one", "late"]) (sc := defScope s__are_numbers) (by decide +kernel)) (fun _ _ _ _ _ => (pg_name (i := 3) sc.nd rfl (Or.inl rfl))) (fun _ _ _ _ _ => pts_nil) (fun _ _ _ _ _ => (pe_and (C8.pe_c c_is_number hr (by decide) rfl (pa_cons (pv 3) pa_nil)) (pe_one (pe_chain op_le op_lt (pv 1) (pv 3) (pv 2)))))) pa_nil))))))) (pss_one (ps_ret pe_bl)) pss_nil)
      (pss_one (ps_ret (pe_callB (cr_allK K rfl) (by rfl) T.n_all (by decide +kernel) (pa_cons (pe_lc (own := [("one", 3), ("late", 4)]) (g := (gTup K 2 (gCons (gName 3) (gCons (gName 4) gNil)))) (tt := tYes) rfl sc.nd (RZ.pi_zipA (by rfl) T.n_zip (pa_cons (pv 0) (pa_cons (pe_slice sl_tupA (pv 0) (po_some pe_int) po_none) pa_nil))) (blkOk_by (N := ["thing", "low", "high", "one", "late"]) (sc := defScope s__are_numbers) (by decide +kernel)) (fun _ _ _ _ _ => (pg_tup rfl (pgs_cons (pg_name (i := 3) sc.nd rfl (Or.inl rfl)) (pgs_cons (pg_name (i := 4) sc.nd rfl (Or.inl rfl)) pgs_nil)))) (fun _ _ _ _ _ => pts_nil) (fun _ _ _ _ _ => (pe_cmpR op_lt (pv 3) (pv 4) (by first | exact nomark _ | rfl)))) pa_nil))))), fun ds d h => ?_⟩
  obtain ⟨l, hi, h1, h2, h3⟩ := h
  refine sq_no (rt_eq (rt_or (rt_not (rt_B (rd_isi (rd_var rfl) rfl rfl))) fun _ => rt_not (rt_B (rd_cb (ra_one (rd_eq (rd_lcM (enc := nD) (f := fun (n : Nat) => .bl (true && (decide ((0 : Int) ≤ (n : Int)) && decide ((n : Int) < (hi : Int))))) (wi_tup (rd_var rfl)) (by omega) fun n _ => ⟨_, _, gd_name, by decide, ?_⟩) ?_)) (cd_all (bs := l.map fun (n : Nat) => (true && (decide ((0 : Int) ≤ (n : Int)) && decide ((n : Int) < (hi : Int))))))))) ?_) ?_
  · exact rd_and (rd_call (ra_one (rd_var rfl)) (.mk _)) fun _ => rd_chain (rd_var rfl) (rd_var rfl) od_b (fun _ => rd_var rfl) fun _ => od_b
  · rw [List.map_map]
    rfl
  · have e : (l.map fun (n : Nat) => (true && (decide ((0 : Int) ≤ (n : Int)) && decide ((n : Int) < (hi : Int))))).all id = true := by
      rw [List.all_map]
      refine List.all_eq_true.mpr fun n hn => ?_
      have := h2 n hn
      show (true && (decide ((0 : Int) ≤ (n : Int)) && decide ((n : Int) < (hi : Int)))) = true
      rw [decide_eq_true (by omega), decide_eq_true (by omega)]
      rfl
    rw [e]
    rfl
  · refine sd_ret (rd_cb (ra_one (rd_eq (rd_lcM (l := l.zip (l.drop 1)) (enc := fun p => .tup [nD p.1, nD p.2]) (f := fun p => .bl (decide ((p.1 : Int) < (p.2 : Int)))) (zipD_map nD nD l (l.drop 1) ▸ wi_zipT (ra_cons (rd_var rfl) (ra_one (rd_slTM (rd_var rfl) (ro_some rd_int) ro_none (cut_from l 1))))) ?_ fun n _ => ⟨_, _, gd_tup2, by decide, ?_⟩) ?_)) (cd_all (bs := (l.zip (l.drop 1)).map fun p => decide ((p.1 : Int) < (p.2 : Int))))) ?_
    · rw [List.length_zip]
      omega
    · exact rd_op (rd_var rfl) (rd_var rfl) od_b
    · rw [List.map_map]
      rfl
    · have e : ((l.zip (l.drop 1)).map fun p => decide ((p.1 : Int) < (p.2 : Int))).all id = true := by
        rw [List.all_map]
        refine List.all_eq_true.mpr fun p hp => ?_
        show decide ((p.1 : Int) < (p.2 : Int)) = true
        apply decide_eq_true
        obtain ⟨i, hi, e⟩ := List.mem_iff_getElem.mp hp
        rw [List.length_zip, List.length_drop] at hi
        rw [List.getElem_zip] at e
        rw [← e]
        have := List.pairwise_iff_getElem.mp h3 i (i + 1) (by omega) (by omega) (by omega)
        simp only [List.getElem_drop]
        have e2 : l[1 + i]'(by omega) = l[i + 1]'(by omega) := by congr 1; omega
        rw [e2]
        omega
      rw [e]
abbrev s__least_period : Stmt := topS 20
theorem sc__least_period : FnScope ["marks", "many", "period"] ["marks"] (defScope s__least_period) := ⟨rfl, rfl, rfl, by decide +kernel, rfl, by decide +kernel, by decide +kernel⟩
theorem ok__least_period {f : Addr} {fd : FuncData} (F : Fun K "_least_period" "_least_period" s__least_period f fd) (T : Txt K w mg kd CS CR CP)   : FnOk P w K mg base CX0 1 f fd ["marks"] (spF K (P__least_period)) := by
  have sc := sc__least_period
  refine fnD F sc (fun ds d h => by cases h; rfl) fun cdv A outer s H E hr => ⟨_,
    (pss_cons (ps_set (i := 1) sc.nd rfl (Or.inl rfl) (pe_callB call_len_seq (by rfl) T.n_len PySem.boot_len (pa_cons (pv 0) pa_nil)))
      (pss_cons (ps_for PassesOwn.never rfl (pi_range2 rfl T.n_range (pa_cons pe_int (pa_cons (pe_op op_add (pv 1) pe_int) pa_nil))) (pg_name (i := 2) sc.nd rfl (Or.inl rfl))
      (pss_one (ps_if (PW.pt (pw_and (pt_cmpR op_eq (pe_op op_mod (pv 1) (pv 2)) pe_int (by first | exact nomark _ | rfl)) (pw_and1 (pt_cmpR (op_eqDK K hr.units) (pe_op op_cat (pe_slice sl_list (pv 0) (po_some (pv 2)) po_none) (pe_slice sl_list (pv 0) po_none (po_some (pv 2)))) (pv 0) (by first | exact nomark _ | rfl))))) (pss_one (ps_ret (pv 2))) pss_nil)))
      (pss_one (ps_ret (pv 1))))), fun ds d h => ?_⟩
  obtain ⟨m, hm⟩ := h
  refine sq_asg (rd_cb (ra_one (rd_var rfl)) cd_lenWL) ?_
  refine sq_forM (l := List.range m.length) (enc := fun (i : Nat) => D.int (1 + (i : Nat))) ?_ (fun i δ1 => (∀ j, 1 ≤ j → j ≤ i → goodP m j = false) ∧ ∃ s, δ1 = [.dat (bsL m), .dat (nD m.length), s]) ⟨fun j h1 h2 => by omega, _, rfl⟩ (fun i x δ1 hx ⟨hn, s, e⟩ => ?_) (fun δ1 ⟨hn, s, e⟩ => ?_)
  · have h := wi_rng2 (K := K) (δ := [.dat (bsL m), .dat (nD m.length), .no]) (m := 1) (n := (m.length : Int) + 1) (ra_cons rd_int (ra_one (rd_op (rd_var (i := 1) rfl) rd_int od_i))) (by decide) (by decide) (by omega) (by omega)
    have e : rngD 1 (((m.length : Nat) : Int) + 1 - 1).toNat = (List.range m.length).map fun (i : Nat) => D.int (1 + (i : Nat)) := by
      rw [show (((m.length : Nat) : Int) + 1 - 1).toNat = m.length by omega]
      rfl
    rw [e] at h
    exact h
  · have hx2 := List.getElem?_eq_some_iff.mp hx
    obtain ⟨hx3, hx4⟩ := hx2
    rw [List.getElem_range] at hx4
    rw [List.length_range] at hx3
    subst hx4
    subst e
    have c1 : ((m.length : Int) % (1 + (i : Int)) = 0) ↔ m.length % (i + 1) = 0 := by
      rw [show (1 + (i : Int)) = ((i + 1 : Nat) : Int) by omega, ← Int.natCast_emod]
      omega
    have hg : goodP m (i + 1) = (decide ((m.length : Int) % (1 + (i : Int)) = 0) && decide (m.drop (i + 1) ++ m.take (i + 1) = m)) := by
      unfold goodP
      congr 1
      exact decide_eq_decide.mpr c1.symm
    refine ⟨_, _, gd_name, ?_⟩
    refine sd_if (x := goodP m (i + 1)) (rt_eq (rt_and (rt_test (rd_op (rd_op (rd_var rfl) (rd_var rfl) (od_C (by show (0 : Int) < 1 + (i : Int); omega))) rd_int od_eqI)) fun _ => rt_test (rd_op (rd_op (rd_slLM (rd_var rfl) (ro_some (rd_eq (rd_var rfl) (show D.int (1 + (i : Int)) = .int ((i + 1 : Nat) : Int) by congr 1; omega))) ro_none (cut_from m (i + 1))) (rd_slLM (rd_var rfl) ro_none (ro_some (rd_eq (rd_var rfl) (show D.int (1 + (i : Int)) = .int ((i + 1 : Nat) : Int) by congr 1; omega))) (cut_to m (i + 1))) (od_cat (by simp only [List.length_map, List.length_drop, List.length_take]; omega))) (rd_var rfl) (by rw [← List.map_append]; exact od_eqLB))) hg.symm) (fun hgood => ?_) (fun hbad => ?_)
    · refine sd_ret (rd_var rfl) ?_
      show D.int (1 + (i : Int)) = D.int ((leastP m : Nat) : Int)
      rw [leastP_some (p := i + 1) (by omega) (by omega) hgood fun j a b => hn j a (by omega)]
      congr 1
      omega
    · refine sd_next ⟨fun j a b => ?_, _, rfl⟩
      by_cases z : j = i + 1
      · rw [z]; exact hbad
      · exact hn j a (by omega)
  · subst e
    rw [List.length_range] at hn
    refine sd_ret (rd_var rfl) ?_
    show nD m.length = nD (leastP m)
    rw [leastP_none hn]
end
end K17
/-! the walk: sets of sizes, the least form and the class -/
namespace K17
open PySem L2 PySem.Spec PyProof.Rows
section
variable {P : Program} {w : World} {K : PySem.W.Frag} {mg : Str → Option Value} {base : Heap} {kd CS CR CP : Addr}
/-! ones: a dict of these numbers -/
def keyOf : D → Key
  | .int i => .inl i
  | _ => .inl 0
def onesD (l : List Nat) : List (Key × D) := (l.map nD).foldl (fun acc d => putKD acc (keyOf d) (.bl true)) []
theorem hasK_ones (l : List Nat) (n : Nat) : hasK (onesD l) (.inl (n : Int)) = decide (n ∈ l) := by
  have g : ∀ (l : List Nat) (acc : List (Key × D)), hasK ((l.map nD).foldl (fun acc d => putKD acc (keyOf d) (.bl true)) acc) (.inl (n : Int)) = (decide (n ∈ l) || hasK acc (.inl (n : Int))) := by
    intro l
    induction l with
    | nil =>
      intro acc
      simp
    | cons a l ih =>
      intro acc
      rw [List.map_cons, List.foldl_cons, ih, hasK_put]
      have e : decide ((Sum.inl (n : Int) : Key) = keyOf (nD a)) = decide (n = a) := by
        apply decide_eq_decide.mpr
        show (Sum.inl (n : Int) : Key) = Sum.inl (a : Int) ↔ n = a
        constructor
        · intro h
          have := Sum.inl.inj h
          omega
        · intro h
          rw [h]
      rw [e]
      apply Bool.eq_iff_iff.mpr
      simp only [Bool.or_eq_true, decide_eq_true_eq, List.mem_cons]
      constructor
      · rintro (h | h | h)
        · exact .inl (.inr h)
        · exact .inl (.inl h)
        · exact .inr h
      · rintro ((h | h) | h)
        · exact .inr (.inl h)
        · exact .inl h
        · exact .inr (.inr h)
  have := g l []
  rw [show onesD l = (l.map nD).foldl (fun acc d => putKD acc (keyOf d) (.bl true)) [] from rfl, this]
  show (_ || false) = _
  rw [Bool.or_false]
theorem rd_ones {δ : DS} {wi : TI} {g : TG} {tk tv : TE} {vs : List Nat} {l : List Nat} (hw : WI K wi δ (l.map nD)) (hz : l.length ≤ 9999)
    (hs : ∀ n : Nat, ∃ is δ2, GD K g is (nD n) (DS.wipe δ vs) δ2 ∧ (∀ i ∈ is, i ∈ vs) ∧ RD K tk δ2 (nD n) ∧ RD K tv δ2 (.bl true)) : RD K (tDc wi g tYes tk tv vs) δ (.dic (onesD l)) :=
  rd_dc keyOf (fun _ => .bl true) hw (by rw [List.length_map]; omega) fun i d hd => by
    obtain ⟨n, _, _, rfl⟩ := mapGet hd
    exact hs n
theorem last_at {m : List Bool} (h : m ≠ []) : L2.atI (m.map D.bl) (-1) = some (.bl (m.getLastD false)) := by
  have e : m.map D.bl = m.dropLast.map D.bl ++ [.bl (m.getLast h)] := by
    conv => lhs; rw [← List.dropLast_concat_getLast h]
    rw [List.map_append]
    rfl
  rw [e, atI_last, List.getLastD_eq_getLast?, List.getLast?_eq_some_getLast h]
  rfl
theorem at_bl {m : List Bool} {i : Nat} (h : i < m.length) : L2.atI (m.map D.bl) (i : Int) = some (.bl (m.getD i false)) := by
  refine atI_nat ?_
  rw [List.getElem?_map, List.getD_eq_getElem?_getD, List.getElem?_eq_getElem h]
  rfl
theorem at_n {m : List Nat} {i : Nat} (h : i < m.length) : L2.atI (m.map nD) (i : Int) = some (nD (m.getD i 0)) := by
  refine atI_nat ?_
  rw [List.getElem?_map, List.getD_eq_getElem?_getD, List.getElem?_eq_getElem h]
  rfl
abbrev s_least_form : Stmt := topS 21
theorem sc_least_form : FnScope ["early", "start", "period", "later", "marks", "short", "ones", "place", "head", "rest", "size", "one"] ["early", "start", "period", "later"] (defScope s_least_form) := ⟨rfl, rfl, rfl, by decide +kernel, rfl, by decide +kernel, by decide +kernel⟩
theorem ok_least_form {f : Addr} {fd : FuncData} (F : Fun K "least_form" "least_form" s_least_form f fd) (T : Txt K w mg kd CS CR CP) (c__least_period : C8.Cal P w K mg base 1 "_least_period" (spF K (P__least_period)) [])  : FnOk P w K mg base CX0 2 f fd ["early", "start", "period", "later"] (spF K (P_least_form)) := by
  have sc := sc_least_form
  refine fnD F sc (fun ds d h => by cases h; rfl) fun cdv A outer s H E hr => ⟨_,
    (pss_cons (ps_set (i := 4) sc.nd rfl (Or.inr rfl) (pe_lc (own := [("rest", 9)]) (g := (gName 9)) (tt := tYes) rfl sc.nd (pi_range1 rfl T.n_range (pa_cons (pv 2) pa_nil)) (blkOk_by (N := ["early", "start", "period", "later", "marks", "short", "ones", "place", "head", "rest", "size", "one"]) (sc := defScope s_least_form) (by decide +kernel)) (fun _ _ _ _ _ => (pg_name (i := 9) sc.nd rfl (Or.inl rfl))) (fun _ _ _ _ _ => pts_nil) (fun _ _ _ _ _ => (pe_cmpR (op_inK K) (pv 9) (pv 3) (by first | exact nomark _ | rfl)))))
      (pss_cons (ps_set (i := 5) sc.nd rfl (Or.inl rfl) (C8.pe_c c__least_period hr (by decide) rfl (pa_cons (pv 4) pa_nil)))
      (pss_cons (ps_set (i := 4) sc.nd rfl (Or.inr rfl) (pe_slice sl_list (pv 4) po_none (po_some (pv 5))))
      (pss_cons (ps_setDc (i := 6) (own := [("size", 10)]) (g := (gName 10)) (tt := tYes) rfl sc.nd rfl rfl (sw_trueD rfl rfl rfl (by decide +kernel)) (pi_tupK K (pv 0)) (blkOk_by (N := ["early", "start", "period", "later", "marks", "short", "ones", "place", "head", "rest", "size", "one"]) (sc := defScope s_least_form) (by decide +kernel)) (fun _ _ _ _ _ => (pg_name (i := 10) sc.nd rfl (Or.inl rfl))) (fun _ _ _ _ _ => pts_nil) (fun _ _ _ _ _ => (pv 10)) (fun _ _ _ _ _ => pe_bl))
      (pss_cons (ps_set (i := 7) sc.nd rfl (Or.inr rfl) (pv 1))
      (pss_cons (ps_while PassesOwn.never (PW.pt (pw_and (pt_cmpR op_gt (pv 7) pe_int (by first | exact nomark _ | rfl)) (pw_and1 (pt_cmpR op_eq (pe_cmp (pc_din (hu_of hr) (pe_op op_sub (pv 7) pe_int) (pv 6))) (pe_ix (ix_listK K) (pv 4) (pe_un un_neg pe_int) (fun _ _ => rfl)) (by first | exact nomark _ | rfl)))))
      (pss_cons (ps_set (i := 7) sc.nd rfl (Or.inr rfl) (pe_op op_sub (pv 7) pe_int))
      (pss_one (ps_set (i := 4) sc.nd rfl (Or.inr rfl) (pe_op op_cat (pe_slice sl_list (pv 4) (po_some (pe_un un_neg pe_int)) po_none) (pe_slice sl_list (pv 4) po_none (po_some (pe_un un_neg pe_int))))))))
      (pss_cons (ps_set (i := 8) sc.nd rfl (Or.inl rfl) (pe_callTy (call_tupleK K) (by rfl) T.n_tuple (by decide +kernel) (pa_cons (pe_lc (own := [("one", 11)]) (g := (gName 11)) rfl sc.nd (pi_tupK K (pv 0)) (blkOk_by (N := ["early", "start", "period", "later", "marks", "short", "ones", "place", "head", "rest", "size", "one"]) (sc := defScope s_least_form) (by decide +kernel)) (fun _ _ _ _ _ => (pg_name (i := 11) sc.nd rfl (Or.inl rfl))) (fun _ _ _ _ _ => pts_one (pt_cmpR op_lt (pv 11) (pv 7) (by first | exact nomark _ | rfl))) (fun _ _ _ _ _ => (pv 11))) pa_nil)))
      (pss_one (ps_ret (pe_tup (pa_cons (pv 8) (pa_cons (pv 7) (pa_cons (pv 5) (pa_cons (pe_callTy (call_tupleK K) (by rfl) T.n_tuple (by decide +kernel) (pa_cons (pe_lc (own := [("rest", 9)]) (g := (gName 9)) rfl sc.nd (pi_range1 rfl T.n_range (pa_cons (pv 5) pa_nil)) (blkOk_by (N := ["early", "start", "period", "later", "marks", "short", "ones", "place", "head", "rest", "size", "one"]) (sc := defScope s_least_form) (by decide +kernel)) (fun _ _ _ _ _ => (pg_name (i := 9) sc.nd rfl (Or.inl rfl))) (fun _ _ _ _ _ => pts_one (pt_val (pe_ix (ix_listK K) (pv 4) (pv 9) (fun _ _ => rfl)))) (fun _ _ _ _ _ => (pv 9))) pa_nil)) pa_nil)))))))))))))), fun ds d h => ?_⟩
  obtain ⟨f, hf⟩ := h
  have hp1 := hf.p1
  refine sq_asg (rd_eq (e := bsL (marksL f)) (rd_lcM (l := List.range f.period) (enc := nD) (f := fun r => .bl (decide (r ∈ f.later))) (wi_rngN (ra_one (rd_var rfl)) (by omega)) (by rw [List.length_range]; omega) fun n _ => ⟨_, _, gd_name, by decide, rd_op (rd_var rfl) (rd_var rfl) od_inN⟩) ?_) ?_
  · unfold bsL marksL
    rw [List.map_map]
    rfl
  refine sq_asg (rd_call (ra_one (rd_var rfl)) (.mk _ (by rw [marksL_len]; omega))) ?_
  refine sq_asg (rd_slLM (rd_var rfl) ro_none (ro_some (rd_var rfl)) (cut_to _ _)) ?_
  refine sq_asg (rd_ones (wi_tup (rd_var rfl)) (Nat.le_trans hf.el (by decide)) fun n => ⟨_, _, gd_name, by decide, rd_var rfl, rd_bl⟩) ?_
  refine sq_asg (rd_var rfl) ?_
  obtain ⟨q1, q2, _⟩ := leastP_spec (marksL_ne hf.p0)
  rw [marksL_len] at q2
  have hm0 : ((marksL f).take (leastP (marksL f))).length = leastP (marksL f) := by
    rw [List.length_take, marksL_len]
    omega
  have hne0 : (marksL f).take (leastP (marksL f)) ≠ [] := by
    intro e
    rw [e] at hm0
    have : (0 : Nat) = leastP (marksL f) := hm0
    omega
  refine sq_while (fun m δ1 => ∃ mk : List Bool, mk ≠ [] ∧ m ≤ f.start ∧ walkB f.early m mk = walkB f.early f.start ((marksL f).take (leastP (marksL f))) ∧
    δ1 = [.dat (nsT f.early), .dat (nD f.start), .dat (nD f.period), .dat (nsT f.later), .dat (bsL mk), .dat (nD (leastP (marksL f))), .dat (.dic (onesD f.early)), .dat (nD m), .no, .no, .no, .no]) f.start ⟨_, hne0, Nat.le_refl _, rfl, rfl⟩ ?_
  rintro m δ1 ⟨mk, hne, hms, hw, rfl⟩
  have hmk : mk.length = leastP (marksL f) := by
    have h1 := (walkB_le f.early m mk).2 hne
    have h2 := (walkB_le f.early f.start ((marksL f).take (leastP (marksL f)))).2 hne0
    rw [hw, h2, hm0] at h1
    exact h1.symm
  refine ⟨decide ((m : Int) > 0) && decide (decide (m - 1 ∈ f.early) = mk.getLastD false), rt_and (rt_test (rd_op (rd_var rfl) rd_int od_b)) fun hpos => ?_, fun hc => ?_, fun hc => ?_⟩
  · have hpos := of_decide_eq_true hpos
    refine rt_test (rd_op (rd_eq (rd_din (k := .inl ((m - 1 : Nat) : Int)) (rd_eq (rd_op (rd_var rfl) rd_int od_i) ?_) (rd_var rfl)) ?_) (rd_op (rd_var rfl) (rd_un rd_int ud_neg) (od_ixL (last_at hne))) od_eqB)
    · show D.int ((m : Int) - 1) = D.int ((m - 1 : Nat) : Int)
      congr 1
      omega
    · rw [hasK_ones]
  · rw [Bool.and_eq_true, decide_eq_true_eq, decide_eq_true_eq] at hc
    obtain ⟨hpos, hlast⟩ := hc
    obtain ⟨s, rfl⟩ : ∃ s, m = s + 1 := ⟨m - 1, by omega⟩
    rw [Nat.add_sub_cancel] at hlast
    refine sq_asg (rd_eq (e := nD s) (rd_op (rd_var rfl) rd_int od_i) ?_) ?_
    · show D.int (((s + 1 : Nat) : Int) - 1) = D.int (s : Int)
      congr 1
      omega
    refine sd_asg (rd_eq (e := bsL (mk.getLastD false :: mk.dropLast)) (rd_op (rd_slLM (rd_var rfl) (ro_some (rd_un rd_int ud_neg)) ro_none (cut_last mk false hne)) (rd_slLM (rd_var rfl) ro_none (ro_some (rd_un rd_int ud_neg)) (cut_but mk)) (od_cat (by simp only [List.length_map, List.length_dropLast, List.length_singleton]; omega))) rfl) ?_
    refine ⟨s, Nat.lt_succ_self s, _, by simp, by omega, ?_, rfl⟩
    rw [← hw]
    conv => rhs; unfold walkB
    rw [if_pos hlast]
  · have hfin : walkB f.early f.start ((marksL f).take (leastP (marksL f))) = (m, mk) := by
      rw [← hw]
      cases m with
      | zero => rfl
      | succ s =>
        rw [Nat.add_sub_cancel, decide_eq_true (by omega), Bool.true_and] at hc
        unfold walkB
        rw [if_neg (of_decide_eq_false hc)]
    have hl : f.least = ⟨f.early.filter fun n => decide (n < m), m, leastP (marksL f), (List.range (leastP (marksL f))).filter fun r => mk.getD r false⟩ := by
      unfold Fm.least
      simp only [hfin]
    have hes : f.early.length ≤ 2000 := hf.el
    refine sq_asg (rd_eq (e := nsT (f.early.filter fun n => decide (n < m))) (rd_cb (ra_one (rd_lcFM (p := fun (n : Nat) => decide (n < m)) (enc := nD) (f := nD) (wi_tup (rd_var rfl)) (by omega) fun n _ => ⟨_, _, gd_name, by decide, rt_eq (rt_test (rd_op (rd_var rfl) (rd_var rfl) od_b)) ?_, fun _ => rd_var rfl⟩)) cd_tupleL) rfl) ?_
    · exact decide_eq_decide.mpr (by omega)
    refine sd_ret (rd_tup (ra_cons (rd_var rfl) (ra_cons (rd_var rfl) (ra_cons (rd_var rfl) (ra_one (rd_cb (ra_one (rd_lcFM (l := List.range (leastP (marksL f))) (p := fun r => mk.getD r false) (enc := nD) (f := nD) (wi_rngN (ra_one (rd_var rfl)) (by omega)) (by rw [List.length_range]; omega) fun n hn => ⟨_, _, gd_name, by decide, rt_B (rd_op (rd_var rfl) (rd_var rfl) (od_ixL (at_bl ?_))), fun _ => rd_var rfl⟩)) cd_tupleL))))) (le5 rfl)) ?_
    · have := List.mem_range.mp hn
      omega
    · rw [hl]
      rfl
abbrev s_Sizes___init__ : Stmt := inClass (topS 22) 0
theorem sc_Sizes___init__ : FnScope ["self", "early", "start", "period", "later"] ["self", "early", "start", "period", "later"] (defScope s_Sizes___init__) := ⟨rfl, rfl, rfl, by decide +kernel, rfl, by decide +kernel, by decide +kernel⟩
theorem ok_Sizes___init__ {f : Addr} {fd : FuncData} (F : Fun K "__init__" "Sizes.__init__" s_Sizes___init__ f fd) (T : Txt K w mg kd CS CR CP) (c__are_numbers : C8.Cal P w K mg base 2 "_are_numbers" (spF K (P__are_numbers)) []) (c_is_number : C8.Cal P w K mg base 1 "is_number" (spF K (P_is_number)) []) (c_least_form : C8.Cal P w K mg base 2 "least_form" (spF K (P_least_form)) [])  : FnOk P w K mg base CX0 3 f fd ["self", "early", "start", "period", "later"] (spI K CS (P_Sizes___init__)) := by
  have sc := sc_Sizes___init__
  refine fnI F sc (fun ds d h => by cases h; rfl) fun cdv A outer s H E hr => ⟨_,
    (pss_cons (ps_if (PW.pt (pw_or (pt_not (pt_val (C8.pe_c c_is_number hr (by decide) rfl (pa_cons (pv 2) pa_nil)))) (pw_or (pt_cmpR op_lt (pv 2) pe_int (by first | exact nomark _ | rfl)) (pw_or (pt_not (pt_val (C8.pe_c c_is_number hr (by decide) rfl (pa_cons (pv 3) pa_nil)))) (pw_or1 (pt_not (pt_chain op_le op_le pe_int (pv 3) (C8.pe_gc rfl T.g_MOST_PERIOD_sizes)))))))) (pss_one ps_never) pss_nil)
      (pss_cons (ps_if (PW.pt (pw_or (pt_not (pt_val (C8.pe_c c__are_numbers hr (by decide) rfl (pa_cons (pv 1) (pa_cons pe_int (pa_cons (pv 2) pa_nil)))))) (pw_or1 (pt_not (pt_val (C8.pe_c c__are_numbers hr (by decide) rfl (pa_cons (pv 4) (pa_cons pe_int (pa_cons (pv 3) pa_nil))))))))) (pss_one ps_never) pss_nil)
      (pss_cons (ps_fld (pv 0) (C8.pe_c c_least_form hr (by decide) rfl (pa_cons (pv 1) (pa_cons (pv 2) (pa_cons (pv 3) (pa_cons (pv 4) pa_nil))))) rfl)
      (pss_one (ps_asg (pe_fldK K (pv 0) rfl) (pg_tup rfl (pgs_cons (pg_fld (pv 0)) (pgs_cons (pg_fld (pv 0)) (pgs_cons (pg_fld (pv 0)) (pgs_cons (pg_fld (pv 0)) pgs_nil)))))))))), fun x ds gs h => ?_⟩
  obtain ⟨f, hf⟩ := h
  have hp1 := hf.p1
  have hp0 := hf.p0
  have hs := hf.s
  refine sq_no (rt_eq (rt_or (rt_not (rt_B (rd_call (ra_one (rd_var rfl)) (.mk _)))) fun _ => rt_or (rt_test (rd_op (rd_var rfl) rd_int od_b)) fun _ => rt_or (rt_not (rt_B (rd_call (ra_one (rd_var rfl)) (.mk _)))) fun _ => rt_not (rt_test (rd_chain rd_int (rd_var rfl) od_b (fun _ => rd_int) fun _ => od_b))) ?_) ?_
  · rw [decide_eq_false (by omega : ¬ (f.start : Int) < 0), decide_eq_true (by omega : (1 : Int) ≤ (f.period : Int)), decide_eq_true (by omega : (f.period : Int) ≤ 5040)]
    rfl
  refine sq_no (rt_eq (rt_or (rt_not (rt_B (rd_call (ra_cons (rd_var rfl) (ra_cons rd_int (ra_one (rd_var rfl)))) (.mk _ _ (Nat.le_trans hf.el (by decide)) hf.e2 hf.e1)))) fun _ => rt_not (rt_B (rd_call (ra_cons (rd_var rfl) (ra_cons rd_int (ra_one (rd_var rfl)))) (.mk _ _ (Nat.le_trans hf.ll (by decide)) hf.l2 hf.l1)))) rfl) ?_
  refine sq_fld T.cS T.aS_form rfl (rd_call (ra_cons (rd_var rfl) (ra_cons (rd_var rfl) (ra_cons (rd_var rfl) (ra_one (rd_var rfl))))) (.mk f hf)) (by decide) ?_
  refine sd_asgM (rd_fldO T.cS T.aS_form rfl rfl) (gms_cons (gm_fld T.cS T.aS_early rfl (by exact Nat.le_of_ble_eq_true rfl)) (gms_cons (gm_fld T.cS T.aS_start rfl (by exact Nat.le_of_ble_eq_true rfl)) (gms_cons (gm_fld T.cS T.aS_period rfl (by exact Nat.le_of_ble_eq_true rfl)) (gms_cons (gm_fld T.cS T.aS_later rfl (by exact Nat.le_of_ble_eq_true rfl)) gms_nil)))) rfl ?_
  rfl
abbrev s_Sizes___eq__ : Stmt := inClass (topS 22) 1
theorem sc_Sizes___eq__ : FnScope ["self", "other"] ["self", "other"] (defScope s_Sizes___eq__) := ⟨rfl, rfl, rfl, by decide +kernel, rfl, by decide +kernel, by decide +kernel⟩
theorem ok_Sizes___eq__ {f : Addr} {fd : FuncData} (F : Fun K "__eq__" "Sizes.__eq__" s_Sizes___eq__ f fd) (T : Txt K w mg kd CS CR CP)   : FnOk P w K mg base CX0 1 f fd ["self", "other"] (spF K (P_Sizes___eq__ CS)) := by
  have sc := sc_Sizes___eq__
  refine fnD F sc (fun ds d h => by cases h; rfl) fun cdv A outer s H E hr => ⟨_,
    (pss_one (ps_ret (pe_and (pe_callB call_isi (by rfl) T.n_isinstance (by decide +kernel) (pa_cons (pv 1) (pa_cons (pe_glob (v := .ref CS) rfl T.g_Sizes rfl) pa_nil))) (pe_one (pe_cmpR (op_eqDK K hr.units) (pe_fldK K (pv 0) rfl) (pe_fldK K (pv 1) rfl) (by first | exact nomark _ | rfl)))))), fun ds d h => ?_⟩
  obtain ⟨f, g⟩ := h
  exact sd_ret (rd_and (rd_isC T.insS (rd_var rfl)) fun _ => rd_op (rd_fld T.cS T.aS_form (rd_var rfl) rfl) (rd_fld T.cS T.aS_form (rd_var rfl) rfl) od_eqFm) rfl
abbrev s_Sizes___contains__ : Stmt := inClass (topS 22) 2
theorem sc_Sizes___contains__ : FnScope ["self", "size"] ["self", "size"] (defScope s_Sizes___contains__) := ⟨rfl, rfl, rfl, by decide +kernel, rfl, by decide +kernel, by decide +kernel⟩
theorem ok_Sizes___contains__ {f : Addr} {fd : FuncData} (F : Fun K "__contains__" "Sizes.__contains__" s_Sizes___contains__ f fd) (T : Txt K w mg kd CS CR CP) (c_is_number : C8.Cal P w K mg base 1 "is_number" (spF K (P_is_number)) [])  : FnOk P w K mg base CX0 2 f fd ["self", "size"] (spF K (P_Sizes___contains__ CS)) := by
  have sc := sc_Sizes___contains__
  refine fnD F sc (fun ds d h => by cases h; rfl) fun cdv A outer s H E hr => ⟨_,
    (pss_cons (ps_if (PW.pt (pw_or (pt_not (pt_val (C8.pe_c c_is_number hr (by decide) rfl (pa_cons (pv 1) pa_nil)))) (pw_or1 (pt_cmpR op_lt (pv 1) pe_int (by first | exact nomark _ | rfl))))) (pss_one ps_never) pss_nil)
      (pss_one (ps_ret (pe_ifExp (pt_cmpR op_lt (pv 1) (pe_fldK K (pv 0) rfl) (by first | exact nomark _ | rfl)) (pe_cmpR (op_inK K) (pv 1) (pe_fldK K (pv 0) rfl) (by first | exact nomark _ | rfl)) (pe_cmpR (op_inK K) (pe_op op_mod (pe_op op_sub (pv 1) (pe_fldK K (pv 0) rfl)) (pe_fldK K (pv 0) rfl)) (pe_fldK K (pv 0) rfl) (by first | exact nomark _ | rfl)))))), fun ds d h => ?_⟩
  obtain ⟨f, n, hp⟩ := h
  refine sq_no (rt_eq (rt_or (rt_not (rt_B (rd_call (ra_one (rd_var rfl)) (.mk _)))) fun _ => rt_test (rd_op (rd_var rfl) rd_int od_b)) ?_) ?_
  · rw [decide_eq_false (by omega : ¬ (n : Int) < 0)]
    rfl
  refine sd_ret (rd_if (x := decide (n < f.start)) (d := .bl (f.mem n)) (rt_eq (rt_test (rd_op (rd_var rfl) (rd_fld T.cS T.aS_start (rd_var rfl) rfl) od_b)) (decide_eq_decide.mpr (by omega))) (fun h1 => ?_) (fun h1 => ?_)) rfl
  · refine rd_eq (rd_op (rd_var rfl) (rd_fld T.cS T.aS_early (rd_var rfl) rfl) od_inN) ?_
    unfold Fm.mem
    rw [if_pos (of_decide_eq_true h1)]
  · have h2 := of_decide_eq_false h1
    refine rd_eq (rd_op (rd_eq (e := nD ((n - f.start) % f.period)) (rd_op (rd_op (rd_var rfl) (rd_fld T.cS T.aS_start (rd_var rfl) rfl) od_i) (rd_fld T.cS T.aS_period (rd_var rfl) rfl) (od_C (by show (0 : Int) < (f.period : Int); omega))) ?_) (rd_fld T.cS T.aS_later (rd_var rfl) rfl) od_inN) ?_
    · show D.int (((n : Int) - (f.start : Int)) % (f.period : Int)) = D.int (((n - f.start) % f.period : Nat) : Int)
      rw [show (n : Int) - (f.start : Int) = ((n - f.start : Nat) : Int) by omega, ← Int.natCast_emod]
    · unfold Fm.mem
      rw [if_neg h2]
end
end K17
/-! the walk: operations on sets of sizes -/
namespace K17
open PySem L2 PySem.Spec PyProof.Rows
section
variable {P : Program} {w : World} {K : PySem.W.Frag} {mg : Str → Option Value} {base : Heap} {kd CS CR CP : Addr}
abbrev s_Sizes___bool__ : Stmt := inClass (topS 22) 7
theorem sc_Sizes___bool__ : FnScope ["self"] ["self"] (defScope s_Sizes___bool__) := ⟨rfl, rfl, rfl, by decide +kernel, rfl, by decide +kernel, by decide +kernel⟩
theorem ok_Sizes___bool__ {f : Addr} {fd : FuncData} (F : Fun K "__bool__" "Sizes.__bool__" s_Sizes___bool__ f fd) (T : Txt K w mg kd CS CR CP)   : FnOk P w K mg base CX0 1 f fd ["self"] (spF K (P_Sizes___bool__ CS)) := by
  have sc := sc_Sizes___bool__
  refine fnD F sc (fun ds d h => by cases h; rfl) fun cdv A outer s H E hr => ⟨_,
    (pss_one (ps_ret (pe_or (pe_callTy call_boolT (by rfl) T.n_bool (by decide +kernel) (pa_cons (pe_fldK K (pv 0) rfl) pa_nil)) (pe_one (pe_callTy call_boolT (by rfl) T.n_bool (by decide +kernel) (pa_cons (pe_fldK K (pv 0) rfl) pa_nil)))))), fun ds d h => ?_⟩
  obtain ⟨f⟩ := h
  refine sd_ret (rd_or (rd_cb (ra_one (rd_fld T.cS T.aS_early (rd_var rfl) rfl)) cd_boolT) fun _ => rd_cb (ra_one (rd_fld T.cS T.aS_later (rd_var rfl) rfl)) cd_boolT) ?_
  show D.bl _ = D.bl _
  unfold Fm.some
  rw [List.isEmpty_map, List.isEmpty_map]
abbrev s_common : Stmt := topS 23
theorem sc_common : FnScope ["one", "two", "rest", "last"] ["one", "two"] (defScope s_common) := ⟨rfl, rfl, rfl, by decide +kernel, rfl, by decide +kernel, by decide +kernel⟩
theorem ok_common {f : Addr} {fd : FuncData} (F : Fun K "common" "common" s_common f fd) (T : Txt K w mg kd CS CR CP)   : FnOk P w K mg base CX0 1 f fd ["one", "two"] (spF K (P_common)) := by
  have sc := sc_common
  refine fnD F sc (fun ds d h => by cases h; rfl) fun cdv A outer s H E hr => ⟨_,
    (pss_cons (ps_par (i := 2) (j := 3) rfl sc.nd rfl rfl (by decide) rfl rfl (pa_cons (pv 0) (pa_cons (pv 1) pa_nil)) rfl)
      (pss_cons (ps_while PassesOwn.never (pt_cmpR op_ne (pv 3) pe_int (by first | exact nomark _ | rfl))
      (pss_one (ps_par (i := 2) (j := 3) rfl sc.nd rfl rfl (by decide) rfl rfl (pa_cons (pv 3) (pa_cons (pe_op op_mod (pv 2) (pv 3)) pa_nil)) rfl)))
      (pss_one (ps_ret (pe_op op_mul (pe_op op_fdiv (pv 0) (pv 2)) (pv 1)))))), fun ds d h => ?_⟩
  obtain ⟨a, b, h1, h3, h4⟩ := h
  refine sq_par (ra_cons (rd_var rfl) (ra_one (rd_var rfl))) ?_
  have hgb : Nat.gcd a b ≤ b := Nat.gcd_le_right _ h3
  refine sq_while (fun m δ1 => ∃ r : Nat, 0 < r ∧ Nat.gcd r m = Nat.gcd a b ∧ δ1 = [.dat (nD a), .dat (nD b), .dat (nD r), .dat (nD m)]) b ⟨a, h1, rfl, rfl⟩ ?_
  rintro m δ1 ⟨r, hr0, hg, rfl⟩
  refine ⟨!decide ((m : Int) = 0), rt_test (rd_op (rd_var rfl) rd_int od_neI), fun hc => ?_, fun hc => ?_⟩
  · have hm : 0 < m := by
      rw [Bool.not_eq_true', decide_eq_false_iff_not] at hc
      omega
    refine sd_par (b := nD (r % m)) (ra_cons (rd_var rfl) (ra_one (rd_eq (rd_op (rd_var rfl) (rd_var rfl) (od_C (by show (0 : Int) < (m : Int); omega))) ?_))) ⟨r % m, Nat.mod_lt _ hm, m, hm, ?_, rfl⟩
    · show D.int ((r : Int) % (m : Int)) = D.int ((r % m : Nat) : Int)
      rw [Int.natCast_emod]
    · rw [← hg, Nat.gcd_comm m, ← Nat.gcd_rec, Nat.gcd_comm]
  · have hm : m = 0 := by
      rw [Bool.not_eq_false', decide_eq_true_eq] at hc
      omega
    subst hm
    rw [Nat.gcd_zero_right] at hg
    subst hg
    refine sd_ret (rd_op (rd_op (rd_var rfl) (rd_var rfl) (od_C ⟨by show (0 : Int) < (Nat.gcd a b : Int); omega, by show (Nat.gcd a b : Int) < 1073741824; omega⟩)) (rd_var rfl) (od_C ?_)) ?_
    · refine ?_
      have e : (a : Int) / (Nat.gcd a b : Int) = ((a / Nat.gcd a b : Nat) : Int) := rfl
      show CMul ((a : Int) / (Nat.gcd a b : Int)) (b : Int)
      rw [e]
      unfold CMul
      omega
    · show D.int ((a : Int) / (Nat.gcd a b : Int) * (b : Int)) = D.int ((Nat.lcm a b : Nat) : Int)
      congr 1
      have e : (a : Int) / (Nat.gcd a b : Int) = ((a / Nat.gcd a b : Nat) : Int) := rfl
      rw [e, ← Int.natCast_mul]
      congr 1
      rw [Nat.lcm, Nat.div_mul_right_comm (Nat.gcd_dvd_left a b)]
abbrev s_from_marks : Stmt := topS 24
theorem sc_from_marks : FnScope ["marks", "period", "start", "early", "size", "rest"] ["marks", "period"] (defScope s_from_marks) := ⟨rfl, rfl, rfl, by decide +kernel, rfl, by decide +kernel, by decide +kernel⟩
theorem ok_from_marks {f : Addr} {fd : FuncData} (F : Fun K "from_marks" "from_marks" s_from_marks f fd) (T : Txt K w mg kd CS CR CP) (k_Sizes : C8.Mak P w K mg base 3 "Sizes" CS (spI K CS (P_Sizes___init__)) [])  : FnOk P w K mg base CX0 5 f fd ["marks", "period"] (spF K (P_from_marks CS)) := by
  have sc := sc_from_marks
  refine fnD F sc (fun ds d h => by cases h; rfl) fun cdv A outer s H E hr => ⟨_,
    (pss_cons (ps_set (i := 2) sc.nd rfl (Or.inr rfl) (pe_op op_sub (pe_callB call_len_seq (by rfl) T.n_len PySem.boot_len (pa_cons (pv 0) pa_nil)) (pv 1)))
      (pss_cons (ps_set (i := 3) sc.nd rfl (Or.inl rfl) (pe_callTy (call_tupleK K) (by rfl) T.n_tuple (by decide +kernel) (pa_cons (pe_lc (own := [("size", 4)]) (g := (gName 4)) rfl sc.nd (pi_range1 rfl T.n_range (pa_cons (pv 2) pa_nil)) (blkOk_by (N := ["marks", "period", "start", "early", "size", "rest"]) (sc := defScope s_from_marks) (by decide +kernel)) (fun _ _ _ _ _ => (pg_name (i := 4) sc.nd rfl (Or.inl rfl))) (fun _ _ _ _ _ => pts_one (pt_val (pe_ix (ix_listK K) (pv 0) (pv 4) (fun _ _ => rfl)))) (fun _ _ _ _ _ => (pv 4))) pa_nil)))
      (pss_one (ps_ret (C8.pe_mk k_Sizes hr (by decide) rfl (pa_cons (pv 3) (pa_cons (pv 2) (pa_cons (pv 1) (pa_cons (pe_callTy (call_tupleK K) (by rfl) T.n_tuple (by decide +kernel) (pa_cons (pe_lc (own := [("rest", 5)]) (g := (gName 5)) rfl sc.nd (pi_range1 rfl T.n_range (pa_cons (pv 1) pa_nil)) (blkOk_by (N := ["marks", "period", "start", "early", "size", "rest"]) (sc := defScope s_from_marks) (by decide +kernel)) (fun _ _ _ _ _ => (pg_name (i := 5) sc.nd rfl (Or.inl rfl))) (fun _ _ _ _ _ => pts_one (pt_val (pe_ix (ix_listK K) (pv 0) (pe_op op_add (pv 2) (pv 5)) (fun _ _ => rfl)))) (fun _ _ _ _ _ => (pv 5))) pa_nil)) pa_nil))))))))), fun ds d h => ?_⟩
  obtain ⟨m, p, h0, h1, h2, h3⟩ := h
  refine sq_asg (rd_eq (e := nD (m.length - p)) (rd_op (rd_cb (ra_one (rd_var rfl)) cd_lenWL) (rd_var rfl) od_i) ?_) ?_
  · show D.int ((m.length : Int) - (p : Int)) = D.int ((m.length - p : Nat) : Int)
    congr 1
    omega
  refine sq_asg (rd_cb (ra_one (rd_lcFM (l := List.range (m.length - p)) (p := fun i => m.getD i false) (enc := nD) (f := nD) (wi_rngN (ra_one (rd_var rfl)) (by omega)) (by rw [List.length_range]; omega) fun n hn => ⟨_, _, gd_name, by decide, rt_B (rd_op (rd_var rfl) (rd_var rfl) (od_ixL (at_bl ?_))), fun _ => rd_var rfl⟩)) cd_tupleL) ?_
  · have := List.mem_range.mp hn
    omega
  refine sd_ret (rd_make (ra_cons (rd_var rfl) (ra_cons (rd_var rfl) (ra_cons (rd_var rfl) (ra_one (rd_cb (ra_one (rd_lcFM (l := List.range p) (p := fun r => m.getD (m.length - p + r) false) (enc := nD) (f := nD) (wi_rngN (ra_one (rd_var rfl)) (by omega)) (by rw [List.length_range]; omega) fun n hn => ⟨_, _, gd_name, by decide, rt_B (rd_op (rd_var rfl) (rd_eq (e := .int ((m.length - p + n : Nat) : Int)) (rd_op (rd_var rfl) (rd_var rfl) od_i) ?_) (od_ixL (at_bl ?_))), fun _ => rd_var rfl⟩)) cd_tupleL))))) (.mk (fromM m p) (fromM_wf h0 h1 h3))) rfl
  · show D.int (((m.length - p : Nat) : Int) + (n : Int)) = D.int ((m.length - p + n : Nat) : Int)
    congr 1
  · have := List.mem_range.mp hn
    omega
abbrev s_marks_of : Stmt := topS 25
theorem sc_marks_of : FnScope ["form", "many", "early", "start", "period", "later", "ones", "rests", "size", "rest"] ["form", "many"] (defScope s_marks_of) := ⟨rfl, rfl, rfl, by decide +kernel, rfl, by decide +kernel, by decide +kernel⟩
theorem ok_marks_of {f : Addr} {fd : FuncData} (F : Fun K "marks_of" "marks_of" s_marks_of f fd) (T : Txt K w mg kd CS CR CP)   : FnOk P w K mg base CX0 1 f fd ["form", "many"] (spF K (P_marks_of)) := by
  have sc := sc_marks_of
  refine fnD F sc (fun ds d h => by cases h; rfl) fun cdv A outer s H E hr => ⟨_,
    (pss_cons (ps_asg (pv 0) (pg_tup rfl (pgs_cons (pg_name (i := 2) sc.nd rfl (Or.inl rfl)) (pgs_cons (pg_name (i := 3) sc.nd rfl (Or.inr rfl)) (pgs_cons (pg_name (i := 4) sc.nd rfl (Or.inr rfl)) (pgs_cons (pg_name (i := 5) sc.nd rfl (Or.inl rfl)) pgs_nil))))))
      (pss_cons (ps_set (i := 6) sc.nd rfl (Or.inr rfl) (pe_dc (own := [("size", 8)]) (g := (gName 8)) (tt := tYes) rfl sc.nd (pi_tupK K (pv 2)) (blkOk_by (N := ["form", "many", "early", "start", "period", "later", "ones", "rests", "size", "rest"]) (sc := defScope s_marks_of) (by decide +kernel)) (fun _ _ _ _ _ => (pg_name (i := 8) sc.nd rfl (Or.inl rfl))) (fun _ _ _ _ _ => pts_nil) (fun _ _ _ _ _ => (pv 8)) (fun _ _ _ _ _ => pe_bl)))
      (pss_cons (ps_set (i := 7) sc.nd rfl (Or.inr rfl) (pe_dc (own := [("rest", 9)]) (g := (gName 9)) (tt := tYes) rfl sc.nd (pi_tupK K (pv 5)) (blkOk_by (N := ["form", "many", "early", "start", "period", "later", "ones", "rests", "size", "rest"]) (sc := defScope s_marks_of) (by decide +kernel)) (fun _ _ _ _ _ => (pg_name (i := 9) sc.nd rfl (Or.inl rfl))) (fun _ _ _ _ _ => pts_nil) (fun _ _ _ _ _ => (pv 9)) (fun _ _ _ _ _ => pe_bl)))
      (pss_one (ps_ret (pe_lc (own := [("size", 8)]) (g := (gName 8)) (tt := tYes) rfl sc.nd (pi_range1 rfl T.n_range (pa_cons (pv 1) pa_nil)) (blkOk_by (N := ["form", "many", "early", "start", "period", "later", "ones", "rests", "size", "rest"]) (sc := defScope s_marks_of) (by decide +kernel)) (fun _ _ _ _ _ => (pg_name (i := 8) sc.nd rfl (Or.inl rfl))) (fun _ _ _ _ _ => pts_nil) (fun _ _ _ _ _ => (pe_ifExp (pt_cmpR op_lt (pv 8) (pv 3) (by first | exact nomark _ | rfl)) (pe_cmp (pc_din (hu_of hr) (pv 8) (pv 6))) (pe_cmp (pc_din (hu_of hr) (pe_op op_mod (pe_op op_sub (pv 8) (pv 3)) (pv 4)) (pv 7))))))))))), fun ds d h => ?_⟩
  obtain ⟨f, n, hf, hn⟩ := h
  have hp := hf.p0
  refine sq_asgG (rd_var rfl) gd_tup4 ?_
  refine sq_asg (rd_ones (wi_tup (rd_var rfl)) (Nat.le_trans hf.el (by decide)) fun n => ⟨_, _, gd_name, by decide, rd_var rfl, rd_bl⟩) ?_
  refine sq_asg (rd_ones (wi_tup (rd_var rfl)) (Nat.le_trans hf.ll (by decide)) fun n => ⟨_, _, gd_name, by decide, rd_var rfl, rd_bl⟩) ?_
  refine sd_ret (rd_eq (rd_lcM (l := List.range n) (enc := nD) (f := fun n => .bl (f.mem n)) (wi_rngN (ra_one (rd_var rfl)) (by omega)) (by rw [List.length_range]; omega) fun n _ => ⟨_, _, gd_name, by decide, rd_if (x := decide (n < f.start)) (rt_eq (rt_test (rd_op (rd_var rfl) (rd_var rfl) od_b)) (decide_eq_decide.mpr (by omega))) (fun h1 => ?_) (fun h1 => ?_)⟩) ?_) rfl
  · refine rd_eq (rd_din (k := .inl (n : Int)) (rd_var rfl) (rd_var rfl)) ?_
    rw [hasK_ones]
    unfold Fm.mem
    rw [if_pos (of_decide_eq_true h1)]
  · have h2 := of_decide_eq_false h1
    refine rd_eq (rd_din (k := .inl (((n - f.start) % f.period : Nat) : Int)) (rd_eq (rd_op (rd_op (rd_var rfl) (rd_var rfl) od_i) (rd_var rfl) (od_C (by show (0 : Int) < (f.period : Int); omega))) ?_) (rd_var rfl)) ?_
    · show D.int (((n : Int) - (f.start : Int)) % (f.period : Int)) = D.int (((n - f.start) % f.period : Nat) : Int)
      rw [show (n : Int) - (f.start : Int) = ((n - f.start : Nat) : Int) by omega, ← Int.natCast_emod]
    · rw [hasK_ones]
      unfold Fm.mem
      rw [if_neg h2]
  · unfold bsL marksOf
    rw [List.map_map]
    rfl
theorem zip_bl (l : List Nat) (a b : Nat → Bool) : zipD ((l.map a).map D.bl) ((l.map b).map D.bl) = l.map fun n => D.tup [.bl (a n), .bl (b n)] := by
  induction l with
  | nil => rfl
  | cons x l ih =>
    show D.tup [.bl (a x), .bl (b x)] :: zipD ((l.map a).map D.bl) ((l.map b).map D.bl) = _
    rw [ih]
    rfl
theorem takeN {n i x : Nat} (h : (List.range n)[i]? = some x) : (List.range n).take (i + 1) = (List.range n).take i ++ [x] := take_snoc h
abbrev s_set_form : Stmt := topS 26
theorem sc_set_form : FnScope ["one", "two", "word", "period", "start", "marks", "mine", "theirs", "early", "size", "rest"] ["one", "two", "word"] (defScope s_set_form) := ⟨rfl, rfl, rfl, by decide +kernel, rfl, by decide +kernel, by decide +kernel⟩
theorem ok_set_form {f : Addr} {fd : FuncData} (F : Fun K "set_form" "set_form" s_set_form f fd) (T : Txt K w mg kd CS CR CP) (c_common : C8.Cal P w K mg base 1 "common" (spF K (P_common)) []) (c_marks_of : C8.Cal P w K mg base 1 "marks_of" (spF K (P_marks_of)) [])  : FnOk P w K mg base CX0 2 f fd ["one", "two", "word"] (spF K (P_set_form)) := by
  have sc := sc_set_form
  refine fnD F sc (fun ds d h => by cases h; rfl) fun cdv A outer s H E hr => ⟨_,
    (pss_cons (ps_set (i := 3) sc.nd rfl (Or.inl rfl) (C8.pe_c c_common hr (by decide) rfl (pa_cons (pe_ix (ix_tupK K) (pv 0) pe_int (fun _ _ => rfl)) (pa_cons (pe_ix (ix_tupK K) (pv 1) pe_int (fun _ _ => rfl)) pa_nil))))
      (pss_cons (ps_if (pt_cmpR op_gt (pv 3) (C8.pe_gc rfl T.g_MOST_PERIOD_sizes) (by first | exact nomark _ | rfl)) (pss_one ps_never) pss_nil)
      (pss_cons (ps_set (i := 4) sc.nd rfl (Or.inr rfl) (pe_callB (call_max2 rfl) (by rfl) T.n_max (by decide +kernel) (pa_cons (pe_ix (ix_tupK K) (pv 0) pe_int (fun _ _ => rfl)) (pa_cons (pe_ix (ix_tupK K) (pv 1) pe_int (fun _ _ => rfl)) pa_nil))))
      (pss_cons (ps_set (i := 5) sc.nd rfl (Or.inr rfl) (pe_lst pa_nil))
      (pss_cons (ps_for PassesOwn.never rfl (RZ.pi_zipA (by rfl) T.n_zip (pa_cons (C8.pe_c c_marks_of hr (by decide) rfl (pa_cons (pv 0) (pa_cons (pe_op op_add (pv 4) (pv 3)) pa_nil))) (pa_cons (C8.pe_c c_marks_of hr (by decide) rfl (pa_cons (pv 1) (pa_cons (pe_op op_add (pv 4) (pv 3)) pa_nil))) pa_nil))) (pg_tup rfl (pgs_cons (pg_name (i := 6) sc.nd rfl (Or.inl rfl)) (pgs_cons (pg_name (i := 7) sc.nd rfl (Or.inl rfl)) pgs_nil)))
      (pss_one (ps_if (pt_cmpR op_eq (pv 2) pe_str (by first | exact nomark _ | rfl)) (pss_one (ps_expr (pe_bm PySem.F.plainAttrs_list PySem.F.slot_list_append PySem.F.type_list_append mt_append (pv 5) (pa_cons (pe_and (pv 6) (pe_one (pv 7))) pa_nil)))) (pss_one (ps_if (pt_cmpR op_eq (pv 2) pe_str (by first | exact nomark _ | rfl)) (pss_one (ps_expr (pe_bm PySem.F.plainAttrs_list PySem.F.slot_list_append PySem.F.type_list_append mt_append (pv 5) (pa_cons (pe_or (pv 6) (pe_one (pv 7))) pa_nil)))) (pss_one (ps_expr (pe_bm PySem.F.plainAttrs_list PySem.F.slot_list_append PySem.F.type_list_append mt_append (pv 5) (pa_cons (pe_and (pv 6) (pe_one (pe_not (pv 7)))) pa_nil)))))))))
      (pss_cons (ps_set (i := 8) sc.nd rfl (Or.inl rfl) (pe_callTy (call_tupleK K) (by rfl) T.n_tuple (by decide +kernel) (pa_cons (pe_lc (own := [("size", 9)]) (g := (gName 9)) rfl sc.nd (pi_range1 rfl T.n_range (pa_cons (pv 4) pa_nil)) (blkOk_by (N := ["one", "two", "word", "period", "start", "marks", "mine", "theirs", "early", "size", "rest"]) (sc := defScope s_set_form) (by decide +kernel)) (fun _ _ _ _ _ => (pg_name (i := 9) sc.nd rfl (Or.inl rfl))) (fun _ _ _ _ _ => pts_one (pt_val (pe_ix (ix_listK K) (pv 5) (pv 9) (fun _ _ => rfl)))) (fun _ _ _ _ _ => (pv 9))) pa_nil)))
      (pss_one (ps_ret (pe_tup (pa_cons (pv 8) (pa_cons (pv 4) (pa_cons (pv 3) (pa_cons (pe_callTy (call_tupleK K) (by rfl) T.n_tuple (by decide +kernel) (pa_cons (pe_lc (own := [("rest", 10)]) (g := (gName 10)) rfl sc.nd (pi_range1 rfl T.n_range (pa_cons (pv 3) pa_nil)) (blkOk_by (N := ["one", "two", "word", "period", "start", "marks", "mine", "theirs", "early", "size", "rest"]) (sc := defScope s_set_form) (by decide +kernel)) (fun _ _ _ _ _ => (pg_name (i := 10) sc.nd rfl (Or.inl rfl))) (fun _ _ _ _ _ => pts_one (pt_val (pe_ix (ix_listK K) (pv 5) (pe_op op_add (pv 4) (pv 10)) (fun _ _ => rfl)))) (fun _ _ _ _ _ => (pv 10))) pa_nil)) pa_nil))))))))))))), fun ds d h => ?_⟩
  obtain ⟨f, g, b, hf, hg, hl⟩ := h
  have hl0 : 0 < Nat.lcm f.period g.period := Nat.lcm_pos hf.p0 hg.p0
  have hfp := hf.p1
  have hgp := hg.p1
  have hfs := hf.s
  have hgs := hg.s
  refine sq_asg (rd_call (ra_cons (rd_op (rd_var rfl) rd_int (od_ixT rfl)) (ra_one (rd_op (rd_var rfl) rd_int (od_ixT rfl)))) (.mk _ _ hf.p0 hg.p0 (by omega))) ?_
  refine sq_no (rt_eq (rt_test (rd_op (rd_var rfl) rd_int od_b)) (decide_eq_false (by omega))) ?_
  refine sq_asg (rd_eq (e := nD (max f.start g.start)) (rd_cb (ra_cons (rd_op (rd_var rfl) rd_int (od_ixT rfl)) (ra_one (rd_op (rd_var rfl) rd_int (od_ixT rfl)))) cd_max2) ?_) ?_
  · show D.int (max (f.start : Int) (g.start : Int)) = D.int ((max f.start g.start : Nat) : Int)
    congr 1
    omega
  refine sq_newL fun q => ?_
  have hsum : ∀ δ, δ[4]? = some (.dat (nD (max f.start g.start))) → δ[3]? = some (.dat (nD (Nat.lcm f.period g.period))) → RD K (tOp (rI0 fun i j => .int (i + j)) (tVar 4) (tVar 3)) δ (nD (max f.start g.start + Nat.lcm f.period g.period)) := fun δ h1 h2 => rd_eq (rd_op (rd_var h1) (rd_var h2) od_i) (by
    show D.int _ = D.int _
    congr 1)
  refine sq_forM (l := List.range (max f.start g.start + Nat.lcm f.period g.period)) (enc := fun n => D.tup [.bl (f.mem n), .bl (g.mem n)]) (zip_bl _ _ _ ▸ wi_zipL (ra_cons (rd_call (ra_cons (rd_var rfl) (ra_one (hsum _ rfl rfl))) (.mk f _ hf.mok (by omega))) (ra_one (rd_call (ra_cons (rd_var rfl) (ra_one (hsum _ rfl rfl))) (.mk g _ hg.mok (by omega))))))
    (fun i δ1 => ∃ s6 s7, δ1 = [.dat (fmD f), .dat (fmD g), .dat (.str (opS b)), .dat (nD (Nat.lcm f.period g.period)), .dat (nD (max f.start g.start)), .ownL q (((List.range (max f.start g.start + Nat.lcm f.period g.period)).take i).map fun n => .bl (opF b (f.mem n) (g.mem n))), s6, s7, .no, .no, .no]) ⟨_, _, rfl⟩ ?_ ?_
  · rintro i x δ1 hx ⟨s6, s7, rfl⟩
    have hz : ((List.range (max f.start g.start + Nat.lcm f.period g.period)).take i).length < 100000 := by
      rw [List.length_take, List.length_range]
      omega
    refine ⟨_, _, gd_tup2, ?_⟩
    have fin : ((List.range (max f.start g.start + Nat.lcm f.period g.period)).take i).map (fun n => D.bl (opF b (f.mem n) (g.mem n))) ++ [.bl (opF b (f.mem x) (g.mem x))] = ((List.range (max f.start g.start + Nat.lcm f.period g.period)).take (i + 1)).map fun n => .bl (opF b (f.mem n) (g.mem n)) := by
      rw [takeN hx, List.map_append]
      rfl
    cases b with
    | true =>
      refine sd_if (x := true) (rt_eq (rt_test (rd_op (rd_var rfl) rd_str od_eqS)) rfl) (fun _ => ?_) (fun z => nomatch z)
      refine sd_app rfl (rd_and (rd_var rfl) fun _ => rd_var rfl) (by rw [List.length_map]; exact hz) ⟨.dat (.bl (f.mem x)), .dat (.bl (g.mem x)), ?_⟩
      rw [← fin]
      rfl
    | false =>
      refine sd_if (x := false) (rt_eq (rt_test (rd_op (rd_var rfl) rd_str od_eqS)) (by decide)) (fun z => nomatch z) (fun _ => ?_)
      refine sd_if (x := false) (rt_eq (rt_test (rd_op (rd_var rfl) rd_str od_eqS)) (by decide)) (fun z => nomatch z) (fun _ => ?_)
      refine sd_app rfl (rd_and (rd_var rfl) fun _ => rd_not (rd_var rfl)) (by rw [List.length_map]; exact hz) ⟨.dat (.bl (f.mem x)), .dat (.bl (g.mem x)), ?_⟩
      rw [← fin]
      rfl
  · rintro δ1 ⟨s6, s7, rfl⟩
    rw [List.take_length]
    refine sd_frzL (i := 5) rfl ?_
    have hml : ((List.range (max f.start g.start + Nat.lcm f.period g.period)).map fun n => opF b (f.mem n) (g.mem n)).length = max f.start g.start + Nat.lcm f.period g.period := by
      rw [List.length_map, List.length_range]
    have hmm : (List.range (max f.start g.start + Nat.lcm f.period g.period)).map (fun n => D.bl (opF b (f.mem n) (g.mem n))) = ((List.range (max f.start g.start + Nat.lcm f.period g.period)).map fun n => opF b (f.mem n) (g.mem n)).map .bl := by
      rw [List.map_map]
      rfl
    have hsf : setForm (opF b) f g = ⟨(List.range (max f.start g.start)).filter fun i => ((List.range (max f.start g.start + Nat.lcm f.period g.period)).map fun n => opF b (f.mem n) (g.mem n)).getD i false, max f.start g.start, Nat.lcm f.period g.period,
        (List.range (Nat.lcm f.period g.period)).filter fun r => ((List.range (max f.start g.start + Nat.lcm f.period g.period)).map fun n => opF b (f.mem n) (g.mem n)).getD (max f.start g.start + r) false⟩ := by
      unfold setForm fromM
      simp only [hml, Nat.add_sub_cancel]
    rw [hmm]
    generalize hM : (List.range (max f.start g.start + Nat.lcm f.period g.period)).map (fun n => opF b (f.mem n) (g.mem n)) = M at hml hsf ⊢
    refine sq_asg (rd_cb (ra_one (rd_lcFM (l := List.range (max f.start g.start)) (p := fun i => M.getD i false) (enc := nD) (f := nD) (wi_rngN (ra_one (rd_var rfl)) (by omega)) (by rw [List.length_range]; omega) fun n hn => ⟨_, _, gd_name, by decide, rt_B (rd_op (rd_var rfl) (rd_var rfl) (od_ixL (at_bl ?_))), fun _ => rd_var rfl⟩)) cd_tupleL) ?_
    · have := List.mem_range.mp hn
      omega
    refine sd_ret (rd_tup (ra_cons (rd_var rfl) (ra_cons (rd_var rfl) (ra_cons (rd_var rfl) (ra_one (rd_cb (ra_one (rd_lcFM (l := List.range (Nat.lcm f.period g.period)) (p := fun r => M.getD (max f.start g.start + r) false) (enc := nD) (f := nD) (wi_rngN (ra_one (rd_var rfl)) (by omega)) (by rw [List.length_range]; omega) fun n hn => ⟨_, _, gd_name, by decide, rt_B (rd_op (rd_var rfl) (rd_eq (e := .int ((max f.start g.start + n : Nat) : Int)) (rd_op (rd_var rfl) (rd_var rfl) od_i) ?_) (od_ixL (at_bl ?_))), fun _ => rd_var rfl⟩)) cd_tupleL))))) (le5 rfl)) ?_
    · show D.int (((max f.start g.start : Nat) : Int) + (n : Int)) = D.int ((max f.start g.start + n : Nat) : Int)
      congr 1
    · have := List.mem_range.mp hn
      omega
    · rw [hsf]
      rfl
abbrev s_Sizes___and__ : Stmt := inClass (topS 22) 3
theorem sc_Sizes___and__ : FnScope ["self", "other", "early", "start", "period", "later"] ["self", "other"] (defScope s_Sizes___and__) := ⟨rfl, rfl, rfl, by decide +kernel, rfl, by decide +kernel, by decide +kernel⟩
theorem ok_Sizes___and__ {f : Addr} {fd : FuncData} (F : Fun K "__and__" "Sizes.__and__" s_Sizes___and__ f fd) (T : Txt K w mg kd CS CR CP) (k_Sizes : C8.Mak P w K mg base 3 "Sizes" CS (spI K CS (P_Sizes___init__)) []) (c_set_form : C8.Cal P w K mg base 2 "set_form" (spF K (P_set_form)) [])  : FnOk P w K mg base CX0 5 f fd ["self", "other"] (spF K (P_Sizes___and__ CS)) := by
  have sc := sc_Sizes___and__
  refine fnD F sc (fun ds d h => by cases h; rfl) fun cdv A outer s H E hr => ⟨_,
    (pss_cons (ps_asg (C8.pe_c c_set_form hr (by decide) rfl (pa_cons (pe_fldK K (pv 0) rfl) (pa_cons (pe_fldK K (pv 1) rfl) (pa_cons pe_str pa_nil)))) (pg_tup rfl (pgs_cons (pg_name (i := 2) sc.nd rfl (Or.inl rfl)) (pgs_cons (pg_name (i := 3) sc.nd rfl (Or.inl rfl)) (pgs_cons (pg_name (i := 4) sc.nd rfl (Or.inl rfl)) (pgs_cons (pg_name (i := 5) sc.nd rfl (Or.inl rfl)) pgs_nil))))))
      (pss_one (ps_ret (C8.pe_mk k_Sizes hr (by decide) rfl (pa_cons (pv 2) (pa_cons (pv 3) (pa_cons (pv 4) (pa_cons (pv 5) pa_nil)))))))), fun ds d h => ?_⟩
  obtain ⟨f, g, hs⟩ := h
  refine sq_asgG (rd_call (ra_cons (rd_fld T.cS T.aS_form (rd_var rfl) rfl) (ra_cons (rd_fld T.cS T.aS_form (rd_var rfl) rfl) (ra_one rd_str))) (.mk f g true hs.wf hs.wg hs.lc)) gd_tup4 ?_
  exact sd_ret (rd_make (ra_cons (rd_var rfl) (ra_cons (rd_var rfl) (ra_cons (rd_var rfl) (ra_one (rd_var rfl))))) (.mk (setForm (opF true) f g) (setForm_wf hs.wf hs.wg hs.lc hs.st))) rfl
abbrev s_Sizes___sub__ : Stmt := inClass (topS 22) 5
theorem sc_Sizes___sub__ : FnScope ["self", "other", "early", "start", "period", "later"] ["self", "other"] (defScope s_Sizes___sub__) := ⟨rfl, rfl, rfl, by decide +kernel, rfl, by decide +kernel, by decide +kernel⟩
theorem ok_Sizes___sub__ {f : Addr} {fd : FuncData} (F : Fun K "__sub__" "Sizes.__sub__" s_Sizes___sub__ f fd) (T : Txt K w mg kd CS CR CP) (k_Sizes : C8.Mak P w K mg base 3 "Sizes" CS (spI K CS (P_Sizes___init__)) []) (c_set_form : C8.Cal P w K mg base 2 "set_form" (spF K (P_set_form)) [])  : FnOk P w K mg base CX0 5 f fd ["self", "other"] (spF K (P_Sizes___sub__ CS)) := by
  have sc := sc_Sizes___sub__
  refine fnD F sc (fun ds d h => by cases h; rfl) fun cdv A outer s H E hr => ⟨_,
    (pss_cons (ps_asg (C8.pe_c c_set_form hr (by decide) rfl (pa_cons (pe_fldK K (pv 0) rfl) (pa_cons (pe_fldK K (pv 1) rfl) (pa_cons pe_str pa_nil)))) (pg_tup rfl (pgs_cons (pg_name (i := 2) sc.nd rfl (Or.inl rfl)) (pgs_cons (pg_name (i := 3) sc.nd rfl (Or.inl rfl)) (pgs_cons (pg_name (i := 4) sc.nd rfl (Or.inl rfl)) (pgs_cons (pg_name (i := 5) sc.nd rfl (Or.inl rfl)) pgs_nil))))))
      (pss_one (ps_ret (C8.pe_mk k_Sizes hr (by decide) rfl (pa_cons (pv 2) (pa_cons (pv 3) (pa_cons (pv 4) (pa_cons (pv 5) pa_nil)))))))), fun ds d h => ?_⟩
  obtain ⟨f, g, hs⟩ := h
  refine sq_asgG (rd_call (ra_cons (rd_fld T.cS T.aS_form (rd_var rfl) rfl) (ra_cons (rd_fld T.cS T.aS_form (rd_var rfl) rfl) (ra_one rd_str))) (.mk f g false hs.wf hs.wg hs.lc)) gd_tup4 ?_
  exact sd_ret (rd_make (ra_cons (rd_var rfl) (ra_cons (rd_var rfl) (ra_cons (rd_var rfl) (ra_one (rd_var rfl))))) (.mk (setForm (opF false) f g) (setForm_wf hs.wf hs.wg hs.lc hs.st))) rfl
abbrev s_Sizes_within : Stmt := inClass (topS 22) 11
theorem sc_Sizes_within : FnScope ["self", "other"] ["self", "other"] (defScope s_Sizes_within) := ⟨rfl, rfl, rfl, by decide +kernel, rfl, by decide +kernel, by decide +kernel⟩
theorem ok_Sizes_within {f : Addr} {fd : FuncData} (F : Fun K "within" "Sizes.within" s_Sizes_within f fd) (T : Txt K w mg kd CS CR CP) (m_Sizes___bool__ : C8.Met P w K mg base 1 CS "__bool__" (spF K (P_Sizes___bool__ CS)) []) (m_Sizes___sub__ : C8.Met P w K mg base 5 CS "__sub__" (spF K (P_Sizes___sub__ CS)) [])  : FnOk P w K mg base CX0 6 f fd ["self", "other"] (spF K (P_Sizes_within CS)) := by
  have sc := sc_Sizes_within
  refine fnD F sc (fun ds d h => by cases h; rfl) fun cdv A outer s H E hr => ⟨_,
    (pss_one (ps_ret (pe_notR (tru_ownM m_Sizes___bool__ hr (by decide)) (pe_op (op_ownM (op := .Sub) m_Sizes___sub__ T.selfS hr (by decide)) (pv 0) (pv 1))))), fun ds d h => ?_⟩
  obtain ⟨f, g, hs⟩ := h
  exact sd_ret (rd_notR (rd_op (rd_var rfl) (rd_var rfl) (od_own (.mk f g hs))) (.mk (sSub f g))) rfl
abbrev s_all_sizes : Stmt := topS 27
theorem sc_all_sizes : FnScope [] [] (defScope s_all_sizes) := ⟨rfl, rfl, rfl, by decide +kernel, rfl, by decide +kernel, by decide +kernel⟩
theorem ok_all_sizes {f : Addr} {fd : FuncData} (F : Fun K "all_sizes" "all_sizes" s_all_sizes f fd) (T : Txt K w mg kd CS CR CP) (k_Sizes : C8.Mak P w K mg base 3 "Sizes" CS (spI K CS (P_Sizes___init__)) [])  : FnOk P w K mg base CX0 5 f fd [] (spF K (P_all_sizes CS)) := by
  have sc := sc_all_sizes
  refine fnD F sc (fun ds d h => by cases h; rfl) fun cdv A outer s H E hr => ⟨_,
    (pss_one (ps_ret (C8.pe_mk k_Sizes hr (by decide) rfl (pa_cons (pe_tup pa_nil) (pa_cons pe_int (pa_cons pe_int (pa_cons (pe_tup (pa_cons pe_int pa_nil)) pa_nil))))))), fun ds d h => ?_⟩
  obtain ⟨⟩ := h
  exact sd_ret (rd_make (ra_cons (rd_tup ra_nil (le5 rfl)) (ra_cons rd_int (ra_cons rd_int (ra_one (rd_tup (ra_one rd_int) (le5 rfl)))))) (.mk ⟨[], 0, 1, [0]⟩ ⟨by decide, by decide, by decide, by decide, by decide, by decide, by decide⟩)) rfl
abbrev s_from_on : Stmt := topS 30
theorem sc_from_on : FnScope ["size"] ["size"] (defScope s_from_on) := ⟨rfl, rfl, rfl, by decide +kernel, rfl, by decide +kernel, by decide +kernel⟩
theorem ok_from_on {f : Addr} {fd : FuncData} (F : Fun K "from_on" "from_on" s_from_on f fd) (T : Txt K w mg kd CS CR CP) (k_Sizes : C8.Mak P w K mg base 3 "Sizes" CS (spI K CS (P_Sizes___init__)) [])  : FnOk P w K mg base CX0 5 f fd ["size"] (spF K (P_from_on CS)) := by
  have sc := sc_from_on
  refine fnD F sc (fun ds d h => by cases h; rfl) fun cdv A outer s H E hr => ⟨_,
    (pss_one (ps_ret (C8.pe_mk k_Sizes hr (by decide) rfl (pa_cons (pe_tup pa_nil) (pa_cons (pe_callB (call_max2 rfl) (by rfl) T.n_max (by decide +kernel) (pa_cons (pv 0) (pa_cons pe_int pa_nil))) (pa_cons pe_int (pa_cons (pe_tup (pa_cons pe_int pa_nil)) pa_nil))))))), fun ds d h => ?_⟩
  obtain ⟨n, hn⟩ := h
  refine sd_ret (rd_make (ra_cons (rd_tup ra_nil (le5 rfl)) (ra_cons (rd_eq (e := nD n) (rd_cb (ra_cons (rd_var rfl) (ra_one rd_int)) cd_max2) ?_) (ra_cons rd_int (ra_one (rd_tup (ra_one rd_int) (le5 rfl)))))) (.mk ⟨[], n, 1, [0]⟩ ⟨Nat.le_trans hn (by decide), Nat.one_pos, Nat.le_of_ble_eq_true rfl, by simp, by simp, by simp, by simp⟩)) rfl
  show D.int (max (n : Int) 0) = D.int (n : Int)
  congr 1
  omega
end
end K17
/-! the walk: lines, rows, spots -/
namespace K17
open PySem L2 PySem.Spec PyProof.Rows
theorem plain_w (w : Wd) : D.plainL (w.map cellD) = true := plainL_map _ _ fun _ _ => rfl
theorem shaped_w (w : Wd) : SeqAt.shaped (D.tup (w.map cellD)).py = true := by
  show SeqAt.shaped (.tuple (D.pyL (w.map cellD))) = true
  rw [pyL_map]
  refine shaped_tuple _ _ fun k _ => ?_
  cases k <;> exact ⟨by decide +kernel, by decide +kernel⟩
section
variable {K : PySem.W.Frag}
theorem od_eqW {w : Wd} : OD K (rEqD K) (.tup (w.map cellD)) (.tup []) (.bl w.isEmpty) := by
  have h := od_eqE (K := K) (plain_w w) (shaped_w w)
  rwa [List.isEmpty_map] at h
theorem od_neW {w : Wd} : OD K (rNeD K) (.tup (w.map cellD)) (.tup []) (.bl (!w.isEmpty)) := by
  have h := od_neE (K := K) (plain_w w) (shaped_w w)
  rwa [List.isEmpty_map] at h
end
section
variable {P : Program} {w : World} {K : PySem.W.Frag} {mg : Str → Option Value} {base : Heap} {kd CS CR CP : Addr}
inductive P_common_divisor : List D → D → Prop
  | mk (a b : Int) : P_common_divisor [.int a, .int b] (nD (Nat.gcd a.natAbs b.natAbs))
inductive P_Ratio___init__ : List D → List (Str × D) → Prop
  | mk (b : Int) : P_Ratio___init__ [.int b, .int 1, .int 1] (ratG b)
inductive P_Ratio_plus (CR : Addr) : List D → D → Prop
  | mk (n : Int) : P_Ratio_plus CR [ratD CR 0, .int n] (ratD CR n)
inductive P_Ratio_where_least (CS CR : Addr) : List D → D → Prop
  | mk (n : Nat) (h : n ≤ 1000) : P_Ratio_where_least CS CR [ratD CR (-(n : Int)), .int 0] (szD CS (fromOn n))
inductive P_Ratio_where_divides (CS CR : Addr) : List D → D → Prop
  | mk (n t : Nat) (h0 : 0 < t) (h : t ≤ 64) (hn : n ≤ 1000) : P_Ratio_where_divides CS CR [ratD CR (-(n : Int)), nD t] (szD CS (divs n t))
inductive P_of_line (CR : Addr) : List D → D → Prop
  | mk : P_of_line CR [.tup [.int 0, .int 1]] (ratD CR 0)
inductive P_is_row : List D → D → Prop
  | mk (r : Rw) (h : r.Ok) : P_is_row [rowD r] (.bl true)
inductive P_check_row : List D → D → Prop
  | mk (r : Rw) (h : r.Ok) : P_check_row [rowD r] .non
inductive P_Spot___init__ (CR : Addr) : List D → List (Str × D) → Prop
  | mk (r : Rw) (h : r.Ok) : P_Spot___init__ CR [.int 0, .int 0, rowD r, ratD CR 0] (spotG CR r)
inductive P_fitting (CS CR CP : Addr) : List D → D → Prop
  | mk (r : Rw) (h : r.Ok) : P_fitting CS CR CP [spotD CR CP r] (szD CS (fitF r))
inductive P_check_size : List D → D → Prop
  | mk (n : Nat) : P_check_size [nD n] .non
inductive P_trouble_of : List D → D → Prop
  | mk (r : Rw) (h : r.Ok) (n : Nat) (h2 : r.fits n) : P_trouble_of [rowD r, nD n] .non
abbrev s_common_divisor : Stmt := topS 33
theorem sc_common_divisor : FnScope ["one", "two"] ["one", "two"] (defScope s_common_divisor) := ⟨rfl, rfl, rfl, by decide +kernel, rfl, by decide +kernel, by decide +kernel⟩
theorem ok_common_divisor {f : Addr} {fd : FuncData} (F : Fun K "common_divisor" "common_divisor" s_common_divisor f fd) (T : Txt K w mg kd CS CR CP)   : FnOk P w K mg base CX0 1 f fd ["one", "two"] (spF K (P_common_divisor)) := by
  have sc := sc_common_divisor
  refine fnD F sc (fun ds d h => by cases h; rfl) fun cdv A outer s H E hr => ⟨_,
    (pss_cons (ps_par (i := 0) (j := 1) rfl sc.nd rfl rfl (by decide) rfl rfl (pa_cons (pe_callB call_abs (by rfl) T.n_abs (by decide +kernel) (pa_cons (pv 0) pa_nil)) (pa_cons (pe_callB call_abs (by rfl) T.n_abs (by decide +kernel) (pa_cons (pv 1) pa_nil)) pa_nil)) rfl)
      (pss_cons (ps_while PassesOwn.never (pt_cmpR op_ne (pv 1) pe_int (by first | exact nomark _ | rfl))
      (pss_one (ps_par (i := 0) (j := 1) rfl sc.nd rfl rfl (by decide) rfl rfl (pa_cons (pv 1) (pa_cons (pe_op op_mod (pv 0) (pv 1)) pa_nil)) rfl)))
      (pss_one (ps_ret (pv 0))))), fun ds d h => ?_⟩
  obtain ⟨a, b⟩ := h
  refine sq_par (ra_cons (rd_cb (ra_one (rd_var rfl)) cd_abs) (ra_one (rd_cb (ra_one (rd_var rfl)) cd_abs))) ?_
  refine sq_while (fun m δ1 => ∃ r : Nat, Nat.gcd r m = Nat.gcd a.natAbs b.natAbs ∧ δ1 = [.dat (nD r), .dat (nD m)]) b.natAbs ⟨a.natAbs, rfl, rfl⟩ ?_
  rintro m δ1 ⟨r, hg, rfl⟩
  refine ⟨!decide ((m : Int) = 0), rt_test (rd_op (rd_var rfl) rd_int od_neI), fun hc => ?_, fun hc => ?_⟩
  · have hm : 0 < m := by
      rw [Bool.not_eq_true', decide_eq_false_iff_not] at hc
      omega
    refine sd_par (b := nD (r % m)) (ra_cons (rd_var rfl) (ra_one (rd_eq (rd_op (rd_var rfl) (rd_var rfl) (od_C (by show (0 : Int) < (m : Int); omega))) ?_))) ⟨r % m, Nat.mod_lt _ hm, m, ?_, rfl⟩
    · show D.int ((r : Int) % (m : Int)) = D.int ((r % m : Nat) : Int)
      rw [Int.natCast_emod]
    · rw [← hg, Nat.gcd_comm m, ← Nat.gcd_rec, Nat.gcd_comm]
  · have hm : m = 0 := by
      rw [Bool.not_eq_false', decide_eq_true_eq] at hc
      omega
    subst hm
    rw [Nat.gcd_zero_right] at hg
    subst hg
    exact sd_ret (rd_var rfl) rfl
abbrev s_Ratio___init__ : Stmt := inClass (topS 34) 0
theorem sc_Ratio___init__ : FnScope ["self", "base", "rise", "below", "shared"] ["self", "base", "rise", "below"] (defScope s_Ratio___init__) := ⟨rfl, rfl, rfl, by decide +kernel, rfl, by decide +kernel, by decide +kernel⟩
theorem ok_Ratio___init__ {f : Addr} {fd : FuncData} (F : Fun K "__init__" "Ratio.__init__" s_Ratio___init__ f fd) (T : Txt K w mg kd CS CR CP) (c_common_divisor : C8.Cal P w K mg base 1 "common_divisor" (spF K (P_common_divisor)) [])  : FnOk P w K mg base CX0 2 f fd ["self", "base", "rise", "below"] (spI K CR (P_Ratio___init__)) := by
  have sc := sc_Ratio___init__
  refine fnI F sc (fun ds d h => by cases h; rfl) fun cdv A outer s H E hr => ⟨_,
    (pss_cons (ps_set (i := 4) sc.nd rfl (Or.inl rfl) (C8.pe_c c_common_divisor hr (by decide) rfl (pa_cons (C8.pe_c c_common_divisor hr (by decide) rfl (pa_cons (pv 1) (pa_cons (pv 2) pa_nil))) (pa_cons (pv 3) pa_nil))))
      (pss_cons (ps_fld (pv 0) (pe_op op_fdiv (pv 1) (pv 4)) rfl)
      (pss_cons (ps_fld (pv 0) (pe_op op_fdiv (pv 2) (pv 4)) rfl)
      (pss_one (ps_fld (pv 0) (pe_op op_fdiv (pv 3) (pv 4)) rfl))))), fun x ds gs h => ?_⟩
  obtain ⟨b⟩ := h
  refine sq_asg (rd_eq (e := .int 1) (rd_call (ra_cons (rd_call (ra_cons (rd_var rfl) (ra_one (rd_var rfl))) (.mk b 1)) (ra_one (rd_var rfl))) (.mk _ 1)) ?_) ?_
  · show D.int ((Nat.gcd _ 1 : Nat) : Int) = D.int 1
    rw [Nat.gcd_one_right]
    rfl
  refine sq_fld T.cR T.aR_base rfl (rd_eq (e := .int b) (rd_op (rd_var rfl) (rd_var rfl) (od_C ⟨by decide, by decide⟩)) ?_) (by decide) ?_
  · show D.int (b / 1) = D.int b
    rw [Int.ediv_one]
  refine sq_fld T.cR T.aR_rise rfl (rd_eq (e := .int 1) (rd_op (rd_var rfl) (rd_var rfl) (od_C ⟨by decide, by decide⟩)) rfl) (by exact Nat.le_of_ble_eq_true rfl) ?_
  refine sd_fld T.cR T.aR_below rfl (rd_eq (e := .int 1) (rd_op (rd_var rfl) (rd_var rfl) (od_C ⟨by decide, by decide⟩)) rfl) (by exact Nat.le_of_ble_eq_true rfl) ?_
  rfl
abbrev s_Ratio_plus : Stmt := inClass (topS 34) 2
theorem sc_Ratio_plus : FnScope ["self", "number"] ["self", "number"] (defScope s_Ratio_plus) := ⟨rfl, rfl, rfl, by decide +kernel, rfl, by decide +kernel, by decide +kernel⟩
theorem ok_Ratio_plus {f : Addr} {fd : FuncData} (F : Fun K "plus" "Ratio.plus" s_Ratio_plus f fd) (T : Txt K w mg kd CS CR CP) (k_Ratio : C8.Mak P w K mg base 2 "Ratio" CR (spI K CR (P_Ratio___init__)) [])  : FnOk P w K mg base CX0 4 f fd ["self", "number"] (spF K (P_Ratio_plus CR)) := by
  have sc := sc_Ratio_plus
  refine fnD F sc (fun ds d h => by cases h; rfl) fun cdv A outer s H E hr => ⟨_,
    (pss_one (ps_ret (C8.pe_mk k_Ratio hr (by decide) rfl (pa_cons (pe_op op_add (pe_fldK K (pv 0) rfl) (pe_op op_mul (pv 1) (pe_fldK K (pv 0) rfl))) (pa_cons (pe_fldK K (pv 0) rfl) (pa_cons (pe_fldK K (pv 0) rfl) pa_nil)))))), fun ds d h => ?_⟩
  obtain ⟨n⟩ := h
  refine sd_ret (rd_make (ra_cons (rd_eq (e := .int n) (rd_op (rd_fld T.cR T.aR_base (rd_var rfl) rfl) (rd_op (rd_var rfl) (rd_fld T.cR T.aR_below (rd_var rfl) rfl) (od_C ?_)) od_i) ?_) (ra_cons (rd_fld T.cR T.aR_rise (rd_var rfl) rfl) (ra_one (rd_fld T.cR T.aR_below (rd_var rfl) rfl)))) (.mk n)) rfl
  · unfold CMul
    omega
  · show D.int (0 + n * 1) = D.int n
    rw [Int.mul_one, Int.zero_add]
abbrev s_Ratio_where_least : Stmt := inClass (topS 34) 6
theorem sc_Ratio_where_least : FnScope ["self", "number", "base"] ["self", "number"] (defScope s_Ratio_where_least) := ⟨rfl, rfl, rfl, by decide +kernel, rfl, by decide +kernel, by decide +kernel⟩
theorem ok_Ratio_where_least {f : Addr} {fd : FuncData} (F : Fun K "where_least" "Ratio.where_least" s_Ratio_where_least f fd) (T : Txt K w mg kd CS CR CP) (c_from_on : C8.Cal P w K mg base 5 "from_on" (spF K (P_from_on CS)) [])  : FnOk P w K mg base CX0 6 f fd ["self", "number"] (spF K (P_Ratio_where_least CS CR)) := by
  have sc := sc_Ratio_where_least
  refine fnD F sc (fun ds d h => by cases h; rfl) fun cdv A outer s H E hr => ⟨_,
    (pss_cons (ps_set (i := 2) sc.nd rfl (Or.inl rfl) (pe_op op_sub (pe_fldK K (pv 0) rfl) (pe_op op_mul (pv 1) (pe_fldK K (pv 0) rfl))))
      (pss_cons (ps_if (pt_cmpR op_eq (pe_fldK K (pv 0) rfl) pe_int (by first | exact nomark _ | rfl)) (pss_one ps_never) pss_nil)
      (pss_cons (ps_if (pt_cmpR op_gt (pe_fldK K (pv 0) rfl) pe_int (by first | exact nomark _ | rfl)) (pss_one (ps_ret (C8.pe_c c_from_on hr (by decide) rfl (pa_cons (pe_un un_neg (pe_op op_fdiv (pv 2) (pe_fldK K (pv 0) rfl))) pa_nil)))) pss_nil)
      (pss_one ps_never)))), fun ds d h => ?_⟩
  obtain ⟨n, hn⟩ := h
  refine sq_asg (rd_eq (e := .int (-(n : Int))) (rd_op (rd_fld T.cR T.aR_base (rd_var rfl) rfl) (rd_op (rd_var rfl) (rd_fld T.cR T.aR_below (rd_var rfl) rfl) (od_C ?_)) od_i) ?_) ?_
  · unfold CMul
    omega
  · show D.int (-(n : Int) - 0 * 1) = D.int (-(n : Int))
    congr 1
    omega
  refine sq_no (rt_eq (rt_test (rd_op (rd_fld T.cR T.aR_rise (rd_var rfl) rfl) rd_int od_eqI)) rfl) ?_
  refine sq_if (x := true) (rt_eq (rt_test (rd_op (rd_fld T.cR T.aR_rise (rd_var rfl) rfl) rd_int od_b)) rfl) (fun _ => ?_) (fun z => nomatch z)
  refine sd_ret (rd_call (ra_one (rd_eq (e := nD n) (rd_un (rd_op (rd_var rfl) (rd_fld T.cR T.aR_rise (rd_var rfl) rfl) (od_C ⟨by decide, by decide⟩)) ud_neg) ?_)) (.mk n hn)) rfl
  show D.int (-(-(n : Int) / 1)) = D.int (n : Int)
  rw [Int.ediv_one, Int.neg_neg]
abbrev s_Ratio_where_divides : Stmt := inClass (topS 34) 8
theorem sc_Ratio_where_divides : FnScope ["self", "number", "period", "found", "size"] ["self", "number"] (defScope s_Ratio_where_divides) := ⟨rfl, rfl, rfl, by decide +kernel, rfl, by decide +kernel, by decide +kernel⟩
theorem ok_Ratio_where_divides {f : Addr} {fd : FuncData} (F : Fun K "where_divides" "Ratio.where_divides" s_Ratio_where_divides f fd) (T : Txt K w mg kd CS CR CP) (k_Sizes : C8.Mak P w K mg base 3 "Sizes" CS (spI K CS (P_Sizes___init__)) [])  : FnOk P w K mg base CX0 5 f fd ["self", "number"] (spF K (P_Ratio_where_divides CS CR)) := by
  have sc := sc_Ratio_where_divides
  refine fnD F sc (fun ds d h => by cases h; rfl) fun cdv A outer s H E hr => ⟨_,
    (pss_cons (ps_set (i := 2) sc.nd rfl (Or.inr rfl) (pe_op op_mul (pv 1) (pe_fldK K (pv 0) rfl)))
      (pss_cons (ps_setLc (i := 3) (own := [("size", 4)]) (g := (gName 4)) rfl sc.nd rfl rfl (sw_true rfl rfl rfl (by decide +kernel)) (pi_range1 rfl T.n_range (pa_cons (pv 2) pa_nil)) (blkOk_by (N := ["self", "number", "period", "found", "size"]) (sc := defScope s_Ratio_where_divides) (by decide +kernel)) (fun _ _ _ _ _ => (pg_name (i := 4) sc.nd rfl (Or.inl rfl))) (fun _ _ _ _ _ => pts_one (pt_cmpR op_eq (pe_op op_mod (pe_op op_add (pe_op op_mul (pe_fldK K (pv 0) rfl) (pv 4)) (pe_fldK K (pv 0) rfl)) (pv 2)) pe_int (by first | exact nomark _ | rfl))) (fun _ _ _ _ _ => (pv 4)))
      (pss_one (ps_ret (C8.pe_mk k_Sizes hr (by decide) rfl (pa_cons (pe_tup pa_nil) (pa_cons pe_int (pa_cons (pv 2) (pa_cons (pe_callTy (call_tupleK K) (by rfl) T.n_tuple (by decide +kernel) (pa_cons (pv 3) pa_nil)) pa_nil))))))))), fun ds d h => ?_⟩
  obtain ⟨n, t, h0, ht, hn⟩ := h
  refine sq_asg (rd_eq (e := nD t) (rd_op (rd_var rfl) (rd_fld T.cR T.aR_below (rd_var rfl) rfl) (od_C ?_)) ?_) ?_
  · show CMul (t : Int) 1
    unfold CMul
    omega
  · show D.int ((t : Int) * 1) = D.int (t : Int)
    rw [Int.mul_one]
  refine sq_asg (rd_lcFM (l := List.range t) (p := fun (s : Nat) => decide (((s : Int) - n) % t = 0)) (enc := nD) (f := nD) (wi_rngN (ra_one (rd_var rfl)) (by omega)) (by rw [List.length_range]; omega) fun s hs => ⟨_, _, gd_name, by decide, rt_eq (rt_test (rd_op (rd_op (rd_op (rd_op (rd_fld T.cR T.aR_rise (rd_var rfl) rfl) (rd_var rfl) (od_C ?_)) (rd_fld T.cR T.aR_base (rd_var rfl) rfl) od_i) (rd_var rfl) (od_C (by show (0 : Int) < (t : Int); omega))) rd_int od_eqI)) ?_, fun _ => rd_var rfl⟩) ?_
  · show CMul 1 (s : Int)
    unfold CMul
    omega
  · show decide ((1 * (s : Int) + -(n : Int)) % (t : Int) = 0) = _
    rw [Int.one_mul]
    rfl
  refine sd_ret (rd_make (ra_cons (rd_tup ra_nil (le5 rfl)) (ra_cons rd_int (ra_cons (rd_var rfl) (ra_one (rd_cb (ra_one (rd_var rfl)) cd_tupleL))))) (.mk _ (divs_wf0 (need := n) h0 ht))) rfl
abbrev s_of_line : Stmt := topS 35
theorem sc_of_line : FnScope ["line"] ["line"] (defScope s_of_line) := ⟨rfl, rfl, rfl, by decide +kernel, rfl, by decide +kernel, by decide +kernel⟩
theorem ok_of_line {f : Addr} {fd : FuncData} (F : Fun K "of_line" "of_line" s_of_line f fd) (T : Txt K w mg kd CS CR CP) (k_Ratio : C8.Mak P w K mg base 2 "Ratio" CR (spI K CR (P_Ratio___init__)) [])  : FnOk P w K mg base CX0 4 f fd ["line"] (spF K (P_of_line CR)) := by
  have sc := sc_of_line
  refine fnD F sc (fun ds d h => by cases h; rfl) fun cdv A outer s H E hr => ⟨_,
    (pss_one (ps_ret (C8.pe_mk k_Ratio hr (by decide) rfl (pa_cons (pe_ix (ix_tupK K) (pv 0) pe_int (fun _ _ => rfl)) (pa_cons (pe_ix (ix_tupK K) (pv 0) pe_int (fun _ _ => rfl)) (pa_cons pe_int pa_nil)))))), fun ds d h => ?_⟩
  obtain ⟨⟩ := h
  exact sd_ret (rd_make (ra_cons (rd_op (rd_var rfl) rd_int (od_ixT rfl)) (ra_cons (rd_op (rd_var rfl) rd_int (od_ixT rfl)) (ra_one rd_int))) (.mk 0)) rfl
abbrev s_is_row : Stmt := topS 39
theorem sc_is_row : FnScope ["thing", "before", "rest", "after", "word"] ["thing"] (defScope s_is_row) := ⟨rfl, rfl, rfl, by decide +kernel, rfl, by decide +kernel, by decide +kernel⟩
theorem ok_is_row {f : Addr} {fd : FuncData} (F : Fun K "is_row" "is_row" s_is_row f fd) (T : Txt K w mg kd CS CR CP) (c_is_word : C8.Cal P w K mg base 3 "is_word" (spF K (P_is_word)) []) (c_takes : C8.Cal P w K mg base 1 "takes" (spF K (P_takes)) [])  : FnOk P w K mg base CX0 4 f fd ["thing"] (spF K (P_is_row)) := by
  have sc := sc_is_row
  refine fnD F sc (fun ds d h => by cases h; rfl) fun cdv A outer s H E hr => ⟨_,
    (pss_cons (ps_if (PW.pt (pw_or (pt_not (pt_val (pe_callB call_isi (by rfl) T.n_isinstance (by decide +kernel) (pa_cons (pv 0) (pa_cons (pe_bltn (v := .ty "tuple") (by rfl) T.n_tuple (by decide +kernel) rfl) pa_nil))))) (pw_or (pt_cmpR op_ne (pe_callB call_len_seq (by rfl) T.n_len PySem.boot_len (pa_cons (pv 0) pa_nil)) pe_int (by first | exact nomark _ | rfl)) (pw_or1 (pt_not (pt_val (pe_callB (cr_allK K rfl) (by rfl) T.n_all (by decide +kernel) (pa_cons (pe_lc (own := [("word", 4)]) (g := (gName 4)) (tt := tYes) rfl sc.nd (pi_tupK K (pv 0)) (blkOk_by (N := ["thing", "before", "rest", "after", "word"]) (sc := defScope s_is_row) (by decide +kernel)) (fun _ _ _ _ _ => (pg_name (i := 4) sc.nd rfl (Or.inl rfl))) (fun _ _ _ _ _ => pts_nil) (fun _ _ _ _ _ => (C8.pe_c c_is_word hr (by decide) rfl (pa_cons (pv 4) pa_nil)))) pa_nil)))))))) (pss_one (ps_ret pe_bl)) pss_nil)
      (pss_cons (ps_asg (pv 0) (pg_tup rfl (pgs_cons (pg_name (i := 1) sc.nd rfl (Or.inl rfl)) (pgs_cons (pg_name (i := 2) sc.nd rfl (Or.inl rfl)) (pgs_cons (pg_name (i := 3) sc.nd rfl (Or.inl rfl)) pgs_nil)))))
      (pss_cons (ps_if (PW.pt (pw_or (pt_cmpR op_gt (pe_callB call_len_seq (by rfl) T.n_len PySem.boot_len (pa_cons (pv 1) pa_nil)) (C8.pe_gc rfl T.g_MOST_CELLS) (by first | exact nomark _ | rfl)) (pw_or (pt_cmpR op_gt (pe_callB call_len_seq (by rfl) T.n_len PySem.boot_len (pa_cons (pv 2) pa_nil)) (C8.pe_gc rfl T.g_MOST_REST) (by first | exact nomark _ | rfl)) (pw_or1 (pt_cmpR op_gt (pe_callB call_len_seq (by rfl) T.n_len PySem.boot_len (pa_cons (pv 3) pa_nil)) (C8.pe_gc rfl T.g_MOST_CELLS) (by first | exact nomark _ | rfl)))))) (pss_one (ps_ret pe_bl)) pss_nil)
      (pss_one (ps_ret (pe_ifExp (pt_cmpR (op_neDK K hr.units) (pv 2) (pe_tup pa_nil) (by first | exact nomark _ | rfl)) (pe_cmpR op_gt (C8.pe_c c_takes hr (by decide) rfl (pa_cons (pv 2) pa_nil)) pe_int (by first | exact nomark _ | rfl)) (pe_cmpR (op_eqDK K hr.units) (pv 3) (pe_tup pa_nil) (by first | exact nomark _ | rfl)))))))), fun ds d h => ?_⟩
  obtain ⟨r, hr'⟩ := h
  have lb := hr'.lb
  have lg := hr'.lg
  have la := hr'.la
  have hw : ∀ x ∈ [r.b, r.g, r.a], x.length ≤ 9999 := fun x hx => by
    simp only [List.mem_cons, List.not_mem_nil, or_false] at hx
    rcases hx with h | h | h <;> subst h <;> omega
  refine sq_no (rt_eq (rt_or (rt_not (rt_B (rd_isi (rd_var rfl) rfl rfl))) fun _ => rt_or (rt_test (rd_op (rd_cb (ra_one (rd_var rfl)) cd_lenT) rd_int od_neI)) fun _ => rt_not (rt_B (rd_cb (ra_one (rd_lcM (l := [r.b, r.g, r.a]) (enc := wD) (f := fun x => .bl true) (wi_tup (rd_var rfl)) (by simp) fun x hx => ⟨_, _, gd_name, by decide, rd_call (ra_one (rd_var rfl)) (.mk x (hw x hx))⟩)) (cd_all (bs := [true, true, true]))))) rfl) ?_
  refine sq_asgG (rd_var rfl) gd_tup3 ?_
  refine sq_no (rt_eq (rt_or (rt_test (rd_op (rd_cb (ra_one (rd_var rfl)) cd_lenW) rd_int od_b)) fun _ => rt_or (rt_test (rd_op (rd_cb (ra_one (rd_var rfl)) cd_lenW) rd_int od_b)) fun _ => rt_test (rd_op (rd_cb (ra_one (rd_var rfl)) cd_lenW) rd_int od_b)) ?_) ?_
  · rw [decide_eq_false (by omega : ¬ (r.b.length : Int) > 60), decide_eq_false (by omega : ¬ (r.g.length : Int) > 30), decide_eq_false (by omega : ¬ (r.a.length : Int) > 60)]
    rfl
  have hg : r.g.isEmpty = false := by
    cases e : r.g with
    | nil => exact absurd e hr'.g0
    | cons _ _ => rfl
  refine sd_ret (rd_if (x := true) (rt_eq (rt_test (rd_op (rd_var rfl) (rd_tup ra_nil (le5 rfl)) od_neW)) (by rw [hg]; rfl)) (fun _ => rd_op (rd_call (ra_one (rd_var rfl)) (.mk r.g (by omega))) rd_int od_b) (fun z => nomatch z)) ?_
  show D.bl (decide ((tkW r.g : Int) > 0)) = .bl true
  have := hr'.gs
  unfold Rw.gr at this
  rw [decide_eq_true (by omega)]
abbrev s_check_row : Stmt := topS 40
theorem sc_check_row : FnScope ["row"] ["row"] (defScope s_check_row) := ⟨rfl, rfl, rfl, by decide +kernel, rfl, by decide +kernel, by decide +kernel⟩
theorem ok_check_row {f : Addr} {fd : FuncData} (F : Fun K "check_row" "check_row" s_check_row f fd) (T : Txt K w mg kd CS CR CP) (c_is_row : C8.Cal P w K mg base 4 "is_row" (spF K (P_is_row)) [])  : FnOk P w K mg base CX0 5 f fd ["row"] (spF K (P_check_row)) := by
  have sc := sc_check_row
  refine fnD F sc (fun ds d h => by cases h; rfl) fun cdv A outer s H E hr => ⟨_,
    (pss_one (ps_if (pt_not (pt_val (C8.pe_c c_is_row hr (by decide) rfl (pa_cons (pv 0) pa_nil)))) (pss_one ps_never) pss_nil)), fun ds d h => ?_⟩
  obtain ⟨r, hr'⟩ := h
  exact sd_if (x := false) (rt_eq (rt_not (rt_B (rd_call (ra_one (rd_var rfl)) (.mk r hr')))) rfl) (fun z => nomatch z) fun _ => sd_next rfl
abbrev s_Spot___init__ : Stmt := inClass (topS 42) 0
theorem sc_Spot___init__ : FnScope ["self", "part", "place", "row", "loops"] ["self", "part", "place", "row", "loops"] (defScope s_Spot___init__) := ⟨rfl, rfl, rfl, by decide +kernel, rfl, by decide +kernel, by decide +kernel⟩
theorem ok_Spot___init__ {f : Addr} {fd : FuncData} (F : Fun K "__init__" "Spot.__init__" s_Spot___init__ f fd) (T : Txt K w mg kd CS CR CP) (c_takes : C8.Cal P w K mg base 1 "takes" (spF K (P_takes)) [])  : FnOk P w K mg base CX0 2 f fd ["self", "part", "place", "row", "loops"] (spI K CP (P_Spot___init__ CR)) := by
  have sc := sc_Spot___init__
  refine fnI F sc (fun ds d h => by cases h; rfl) fun cdv A outer s H E hr => ⟨_,
    (pss_cons (ps_fld (pv 0) (pv 1) rfl)
      (pss_cons (ps_fld (pv 0) (pv 2) rfl)
      (pss_cons (ps_fld (pv 0) (pv 3) rfl)
      (pss_cons (ps_fld (pv 0) (pv 4) rfl)
      (pss_one (ps_fld (pv 0) (pe_op op_add (C8.pe_c c_takes hr (by decide) rfl (pa_cons (pe_ix (ix_tupK K) (pv 3) pe_int (fun _ _ => rfl)) pa_nil)) (C8.pe_c c_takes hr (by decide) rfl (pa_cons (pe_ix (ix_tupK K) (pv 3) pe_int (fun _ _ => rfl)) pa_nil))) rfl)))))), fun x ds gs h => ?_⟩
  obtain ⟨r, hr'⟩ := h
  have lb := hr'.lb
  have la := hr'.la
  refine sq_fld T.cP T.aP_part rfl (rd_var rfl) (by decide) ?_
  refine sq_fld T.cP T.aP_place rfl (rd_var rfl) (by exact Nat.le_of_ble_eq_true rfl) ?_
  refine sq_fld T.cP T.aP_row rfl (rd_var rfl) (by exact Nat.le_of_ble_eq_true rfl) ?_
  refine sq_fld T.cP T.aP_loops rfl (rd_var rfl) (by exact Nat.le_of_ble_eq_true rfl) ?_
  refine sd_fld T.cP T.aP_need rfl (rd_eq (e := nD r.need) (rd_op (rd_call (ra_one (rd_op (rd_var rfl) rd_int (od_ixT rfl))) (.mk r.b (by omega))) (rd_call (ra_one (rd_op (rd_var rfl) rd_int (od_ixT rfl))) (.mk r.a (by omega))) od_i) rfl) (by exact Nat.le_of_ble_eq_true rfl) ?_
  rfl
abbrev s_fitting : Stmt := topS 43
theorem sc_fitting : FnScope ["spot", "left"] ["spot"] (defScope s_fitting) := ⟨rfl, rfl, rfl, by decide +kernel, rfl, by decide +kernel, by decide +kernel⟩
theorem ok_fitting {f : Addr} {fd : FuncData} (F : Fun K "fitting" "fitting" s_fitting f fd) (T : Txt K w mg kd CS CR CP) (m_Ratio_plus : C8.Met P w K mg base 4 CR "plus" (spF K (P_Ratio_plus CR)) []) (m_Ratio_where_divides : C8.Met P w K mg base 5 CR "where_divides" (spF K (P_Ratio_where_divides CS CR)) []) (m_Ratio_where_least : C8.Met P w K mg base 6 CR "where_least" (spF K (P_Ratio_where_least CS CR)) []) (m_Sizes___and__ : C8.Met P w K mg base 5 CS "__and__" (spF K (P_Sizes___and__ CS)) []) (c_takes : C8.Cal P w K mg base 1 "takes" (spF K (P_takes)) [])  : FnOk P w K mg base CX0 7 f fd ["spot"] (spF K (P_fitting CS CR CP)) := by
  have sc := sc_fitting
  refine fnD F sc (fun ds d h => by cases h; rfl) fun cdv A outer s H E hr => ⟨_,
    (pss_cons (ps_if (pt_cmpR (op_eqDK K hr.units) (pe_ix (ix_tupK K) (pe_fldK K (pv 0) rfl) pe_int (fun _ _ => rfl)) (pe_tup pa_nil) (by first | exact nomark _ | rfl)) (pss_one ps_never) pss_nil)
      (pss_cons (ps_set (i := 1) sc.nd rfl (Or.inl rfl) (C8.pe_mt m_Ratio_plus hr (by decide) (pe_fldK K (pv 0) rfl) (pa_cons (pe_un un_neg (pe_fldK K (pv 0) rfl)) pa_nil)))
      (pss_one (ps_ret (pe_op (op_ownM (op := .BitAnd) m_Sizes___and__ T.selfS hr (by decide)) (C8.pe_mt m_Ratio_where_least hr (by decide) (pv 1) (pa_cons pe_int pa_nil)) (C8.pe_mt m_Ratio_where_divides hr (by decide) (pv 1) (pa_cons (C8.pe_c c_takes hr (by decide) rfl (pa_cons (pe_ix (ix_tupK K) (pe_fldK K (pv 0) rfl) pe_int (fun _ _ => rfl)) pa_nil)) pa_nil))))))), fun ds d h => ?_⟩
  obtain ⟨r, hr'⟩ := h
  have lg := hr'.lg
  have hnd := hr'.nd
  have hgs := hr'.gs
  have hg : r.g.isEmpty = false := by
    cases e : r.g with
    | nil => exact absurd e hr'.g0
    | cons _ _ => rfl
  obtain ⟨f1, f2, f3⟩ := fromOn_wf (n := r.need) (by omega)
  obtain ⟨d1, d2, d3⟩ := divs_wf (need := r.need) (t := r.gr) (by omega) (by omega)
  refine sq_no (rt_eq (rt_test (rd_op (rd_op (rd_fld T.cP T.aP_row (rd_var rfl) rfl) rd_int (od_ixT rfl)) (rd_tup ra_nil (le5 rfl)) od_eqW)) hg) ?_
  refine sq_asg (rd_meth (rd_fld T.cP T.aP_loops (rd_var rfl) rfl) rfl (ra_one (rd_un (rd_fld T.cP T.aP_need (rd_var rfl) rfl) ud_neg)) (.mk (-(r.need : Int)))) ?_
  refine sd_ret (rd_op (rd_meth (rd_var rfl) rfl (ra_one rd_int) (.mk r.need (by omega))) (rd_meth (rd_var rfl) rfl (ra_one (rd_call (ra_one (rd_op (rd_fld T.cP T.aP_row (rd_var rfl) rfl) rd_int (od_ixT rfl))) (.mk r.g (by omega)))) (.mk r.need r.gr (by omega) (by omega) (by omega))) (od_own (.mk (fromOn r.need) (divs r.need r.gr) ⟨f1, d1, ?_, ?_⟩))) rfl
  · rw [f2, lcm1]
    omega
  · omega
abbrev s_check_size : Stmt := topS 44
theorem sc_check_size : FnScope ["size"] ["size"] (defScope s_check_size) := ⟨rfl, rfl, rfl, by decide +kernel, rfl, by decide +kernel, by decide +kernel⟩
theorem ok_check_size {f : Addr} {fd : FuncData} (F : Fun K "check_size" "check_size" s_check_size f fd) (T : Txt K w mg kd CS CR CP) (c_is_number : C8.Cal P w K mg base 1 "is_number" (spF K (P_is_number)) [])  : FnOk P w K mg base CX0 2 f fd ["size"] (spF K (P_check_size)) := by
  have sc := sc_check_size
  refine fnD F sc (fun ds d h => by cases h; rfl) fun cdv A outer s H E hr => ⟨_,
    (pss_one (ps_if (PW.pt (pw_or (pt_not (pt_val (C8.pe_c c_is_number hr (by decide) rfl (pa_cons (pv 0) pa_nil)))) (pw_or1 (pt_cmpR op_lt (pv 0) pe_int (by first | exact nomark _ | rfl))))) (pss_one ps_never) pss_nil)), fun ds d h => ?_⟩
  obtain ⟨n⟩ := h
  refine sd_if (x := false) (rt_eq (rt_or (rt_not (rt_B (rd_call (ra_one (rd_var rfl)) (.mk _)))) fun _ => rt_test (rd_op (rd_var rfl) rd_int od_b)) ?_) (fun z => nomatch z) fun _ => sd_next rfl
  rw [decide_eq_false (by omega : ¬ (n : Int) < 0)]
  rfl
abbrev s_trouble_of : Stmt := topS 45
theorem sc_trouble_of : FnScope ["row", "loops", "need", "group"] ["row", "loops"] (defScope s_trouble_of) := ⟨rfl, rfl, rfl, by decide +kernel, rfl, by decide +kernel, by decide +kernel⟩
theorem ok_trouble_of {f : Addr} {fd : FuncData} (F : Fun K "trouble_of" "trouble_of" s_trouble_of f fd) (T : Txt K w mg kd CS CR CP) (c_takes : C8.Cal P w K mg base 1 "takes" (spF K (P_takes)) [])  : FnOk P w K mg base CX0 2 f fd ["row", "loops"] (spF K (P_trouble_of)) := by
  have sc := sc_trouble_of
  refine fnD F sc (fun ds d h => by cases h; rfl) fun cdv A outer s H E hr => ⟨_,
    (pss_cons (ps_par (i := 2) (j := 3) rfl sc.nd rfl rfl (by decide) rfl rfl (pa_cons (pe_op op_add (C8.pe_c c_takes hr (by decide) rfl (pa_cons (pe_ix (ix_tupK K) (pv 0) pe_int (fun _ _ => rfl)) pa_nil)) (C8.pe_c c_takes hr (by decide) rfl (pa_cons (pe_ix (ix_tupK K) (pv 0) pe_int (fun _ _ => rfl)) pa_nil))) (pa_cons (C8.pe_c c_takes hr (by decide) rfl (pa_cons (pe_ix (ix_tupK K) (pv 0) pe_int (fun _ _ => rfl)) pa_nil)) pa_nil)) rfl)
      (pss_cons (ps_if (pt_cmpR op_lt (pv 1) (pv 2) (by first | exact nomark _ | rfl)) (pss_one (ps_ret pe_str)) pss_nil)
      (pss_cons (ps_if (pt_cmpR (op_eqDK K hr.units) (pe_ix (ix_tupK K) (pv 0) pe_int (fun _ _ => rfl)) (pe_tup pa_nil) (by first | exact nomark _ | rfl)) (pss_one (ps_ret (pe_ifExp (pt_cmpR op_gt (pv 1) (pv 2) (by first | exact nomark _ | rfl)) pe_str pe_non))) pss_nil)
      (pss_one (ps_ret (pe_ifExp (pt_cmpR op_ne (pe_op op_mod (pe_op op_sub (pv 1) (pv 2)) (pv 3)) pe_int (by first | exact nomark _ | rfl)) pe_str pe_non)))))), fun ds d h => ?_⟩
  obtain ⟨r, hr', n, hf⟩ := h
  have lb := hr'.lb
  have la := hr'.la
  have lg := hr'.lg
  have hgs := hr'.gs
  have hg : r.g.isEmpty = false := by
    cases e : r.g with
    | nil => exact absurd e hr'.g0
    | cons _ _ => rfl
  obtain ⟨f1, f2⟩ := hf
  refine sq_par (a := nD r.need) (b := nD r.gr) (ra_cons (rd_op (rd_call (ra_one (rd_op (rd_var rfl) rd_int (od_ixT rfl))) (.mk r.b (by omega))) (rd_call (ra_one (rd_op (rd_var rfl) rd_int (od_ixT rfl))) (.mk r.a (by omega))) od_i) (ra_one (rd_call (ra_one (rd_op (rd_var rfl) rd_int (od_ixT rfl))) (.mk r.g (by omega))))) ?_
  refine sq_no (rt_eq (rt_test (rd_op (rd_var rfl) (rd_var rfl) od_b)) (decide_eq_false (by omega))) ?_
  refine sq_no (rt_eq (rt_test (rd_op (rd_op (rd_var rfl) rd_int (od_ixT rfl)) (rd_tup ra_nil (le5 rfl)) od_eqW)) hg) ?_
  refine sd_ret (rd_if (x := false) (rt_eq (rt_test (rd_op (rd_op (rd_op (rd_var rfl) (rd_var rfl) od_i) (rd_var rfl) (od_C (by show (0 : Int) < (r.gr : Int); omega))) rd_int od_neI)) ?_) (fun z => nomatch z) fun _ => rd_non) rfl
  have e : ((n : Int) - (r.need : Int)) % (r.gr : Int) = 0 := by
    rw [show (n : Int) - (r.need : Int) = ((n - r.need : Nat) : Int) by omega, ← Int.natCast_emod, f2]
    rfl
  rw [decide_eq_true e]
  rfl
end
end K17
/-! the walk: knitting, crossing (first part) -/
namespace K17
open PySem L2 PySem.Spec PyProof.Rows
section
variable {K : PySem.W.Frag} {δ : DS}
theorem rd_lenO {i : Nat} {p : Addr} {ds : List D} (hi : δ[i]? = some (.ownL p ds)) : RD K (tCB (fun xs H Q => ∃ p ys, xs = [.ref p] ∧ (SqL K H p ys ∨ SqT K H p ys) ∧ Q (.int ys.length) H) (tCons (tVar i) tNil)) δ (.int ds.length) := fun A σ Hb H q Q k => by
  obtain ⟨o, h1, h2, h3, h4, xs, h5, h6⟩ := q.sl i _ hi
  subst h2
  refine ⟨_, h1, _, _, rfl, .inl (SqL.of h5), ?_⟩
  rw [h6.len]
  exact k _ Hb H (.refl q.gr.s) (.int _)
theorem enumD_map {α : Type} (f : α → D) (l : List α) : enumD (l.map f) = ((List.range l.length).zip l).map fun p => .tup [nD p.1, f p.2] := by
  unfold enumD
  rw [List.length_map, List.zipWith_map_right, List.zip, List.map_zipWith]
  rfl
theorem zipR_get {α : Type} {l : List α} {i : Nat} {p : Nat × α} (h : ((List.range l.length).zip l)[i]? = some p) : l[i]? = some p.2 ∧ p.1 = i := by
  obtain ⟨hi, e⟩ := List.getElem?_eq_some_iff.mp h
  rw [List.getElem_zip, List.getElem_range] at e
  rw [List.length_zip, List.length_range, Nat.min_self] at hi
  rw [← e]
  exact ⟨List.getElem?_eq_getElem hi, rfl⟩
end
theorem rep_map {α β : Type} (f : α → β) (l : List α) (k : Nat) : (List.replicate k (l.map f)).flatten = ((List.replicate k l).flatten).map f := by
  rw [List.map_flatten, List.map_replicate]
theorem work_len {r : Rw} {n : Nat} (h : r.Ok) (hn : n ≤ 200) : ((List.replicate (r.turns n) r.g).flatten).length ≤ 6000 ∧ (r.work n).length ≤ 9999 := by
  have h1 : r.turns n ≤ 200 := Nat.le_trans (Nat.div_le_self _ _) (by omega)
  have h2 : ((List.replicate (r.turns n) r.g).flatten).length = r.turns n * r.g.length := by
    rw [List.length_flatten, List.map_replicate, List.sum_replicate_nat]
  have h3 : r.turns n * r.g.length ≤ 200 * 30 := Nat.mul_le_mul h1 h.lg
  have lb := h.lb
  have la := h.la
  refine ⟨by omega, ?_⟩
  unfold Rw.work
  rw [List.length_append, List.length_append]
  omega
theorem tkW_le (w : Wd) : tkW w ≤ 4 * w.length := by
  induction w with
  | nil => exact Nat.zero_le _
  | cons k w ih =>
    have e : tkW (k :: w) = k.tk + tkW w := by
      unfold tkW
      rw [List.map_cons, List.sum_cons]
    have hk : k.tk ≤ 4 := by cases k <;> decide
    rw [e, List.length_cons]
    omega
theorem tk_pos (k : Kd) : 1 ≤ k.tk ∧ k.tk ≤ 4 := by cases k <;> decide
section
variable {P : Program} {w : World} {K : PySem.W.Frag} {mg : Str → Option Value} {base : Heap} {kd CS CR CP : Addr}
inductive P_behind_row : List D → D → Prop
  | mk (r : Rw) (h : r.Ok) : P_behind_row [rowD r] (rowD r.back)
inductive P_turns_of : List D → D → Prop
  | mk (r : Rw) (h : r.Ok) (n : Nat) (h2 : r.fits n) (hn : n ≤ 200) : P_turns_of [rowD r, nD n] (nD (r.turns n))
inductive P_worked : List D → D → Prop
  | mk (r : Rw) (h : r.Ok) (n : Nat) (h2 : r.fits n) (hn : n ≤ 200) : P_worked [rowD r, nD n] (wD (r.work n))
inductive P_is_steady_word : List D → D → Prop
  | mk (w : Wd) (h : w.length ≤ 9999) : P_is_steady_word [wD w] (.bl true)
inductive P_is_steady : List D → D → Prop
  | mk (r : Rw) (h : r.Ok) : P_is_steady [rowD r] (.bl true)
inductive P_check_steady : List D → D → Prop
  | mk (rows : List Rw) (h : RowsOk rows) : P_check_steady [rowsD rows] .non
inductive P_shared_period : List D → D → Prop
  | mk (rows : List Rw) (h : ∀ r ∈ rows, r.Ok) : P_shared_period [rowsD rows] (nD (shared rows))
inductive P_sent_by : List D → D → Prop
  | mk (w : Wd) (h : w.length ≤ 9999) : P_sent_by [wD w] (nsL (sentBy w))
inductive P_round_of : List D → D → Prop
  | mk (rows : List Rw) (h : RowsOk rows) (b : Bool) : P_round_of [rowsD rows, .str (wayS b)] (rowsL (roundOf rows b))
inductive P_where_fits (CS : Addr) : List D → D → Prop
  | mk (rows : List Rw) (h : RowsOk rows) : P_where_fits CS [rowsD rows] (szD CS (whereFits rows))
abbrev s_behind_row : Stmt := topS 47
theorem sc_behind_row : FnScope ["row"] ["row"] (defScope s_behind_row) := ⟨rfl, rfl, rfl, by decide +kernel, rfl, by decide +kernel, by decide +kernel⟩
theorem ok_behind_row {f : Addr} {fd : FuncData} (F : Fun K "behind_row" "behind_row" s_behind_row f fd) (T : Txt K w mg kd CS CR CP) (c_behind : C8.Cal P w K mg base 1 "behind" (spF K (P_behind)) [])  : FnOk P w K mg base CX0 2 f fd ["row"] (spF K (P_behind_row)) := by
  have sc := sc_behind_row
  refine fnD F sc (fun ds d h => by cases h; rfl) fun cdv A outer s H E hr => ⟨_,
    (pss_cons (ps_if (pt_cmpR (op_eqDK K hr.units) (pe_ix (ix_tupK K) (pv 0) pe_int (fun _ _ => rfl)) (pe_tup pa_nil) (by first | exact nomark _ | rfl)) (pss_one (ps_ret (pe_tup (pa_cons (C8.pe_c c_behind hr (by decide) rfl (pa_cons (pe_ix (ix_tupK K) (pv 0) pe_int (fun _ _ => rfl)) pa_nil)) (pa_cons (pe_tup pa_nil) (pa_cons (pe_tup pa_nil) pa_nil)))))) pss_nil)
      (pss_one (ps_ret (pe_tup (pa_cons (C8.pe_c c_behind hr (by decide) rfl (pa_cons (pe_ix (ix_tupK K) (pv 0) pe_int (fun _ _ => rfl)) pa_nil)) (pa_cons (C8.pe_c c_behind hr (by decide) rfl (pa_cons (pe_ix (ix_tupK K) (pv 0) pe_int (fun _ _ => rfl)) pa_nil)) (pa_cons (C8.pe_c c_behind hr (by decide) rfl (pa_cons (pe_ix (ix_tupK K) (pv 0) pe_int (fun _ _ => rfl)) pa_nil)) pa_nil))))))), fun ds d h => ?_⟩
  obtain ⟨r, hr'⟩ := h
  have lb := hr'.lb
  have la := hr'.la
  have lg := hr'.lg
  have hg : r.g.isEmpty = false := by
    cases e : r.g with
    | nil => exact absurd e hr'.g0
    | cons _ _ => rfl
  refine sq_no (rt_eq (rt_test (rd_op (rd_op (rd_var rfl) rd_int (od_ixT rfl)) (rd_tup ra_nil (le5 rfl)) od_eqW)) hg) ?_
  exact sd_ret (rd_tup (ra_cons (rd_call (ra_one (rd_op (rd_var rfl) rd_int (od_ixT rfl))) (.mk r.a (by omega))) (ra_cons (rd_call (ra_one (rd_op (rd_var rfl) rd_int (od_ixT rfl))) (.mk r.g (by omega))) (ra_one (rd_call (ra_one (rd_op (rd_var rfl) rd_int (od_ixT rfl))) (.mk r.b (by omega)))))) (le5 rfl)) rfl
abbrev s_turns_of : Stmt := topS 49
theorem sc_turns_of : FnScope ["row", "loops"] ["row", "loops"] (defScope s_turns_of) := ⟨rfl, rfl, rfl, by decide +kernel, rfl, by decide +kernel, by decide +kernel⟩
theorem ok_turns_of {f : Addr} {fd : FuncData} (F : Fun K "turns_of" "turns_of" s_turns_of f fd) (T : Txt K w mg kd CS CR CP) (c_takes : C8.Cal P w K mg base 1 "takes" (spF K (P_takes)) [])  : FnOk P w K mg base CX0 2 f fd ["row", "loops"] (spF K (P_turns_of)) := by
  have sc := sc_turns_of
  refine fnD F sc (fun ds d h => by cases h; rfl) fun cdv A outer s H E hr => ⟨_,
    (pss_one (ps_ret (pe_ifExp (pt_cmpR (op_eqDK K hr.units) (pe_ix (ix_tupK K) (pv 0) pe_int (fun _ _ => rfl)) (pe_tup pa_nil) (by first | exact nomark _ | rfl)) pe_int (pe_op op_fdiv (pe_op op_sub (pe_op op_sub (pv 1) (C8.pe_c c_takes hr (by decide) rfl (pa_cons (pe_ix (ix_tupK K) (pv 0) pe_int (fun _ _ => rfl)) pa_nil))) (C8.pe_c c_takes hr (by decide) rfl (pa_cons (pe_ix (ix_tupK K) (pv 0) pe_int (fun _ _ => rfl)) pa_nil))) (C8.pe_c c_takes hr (by decide) rfl (pa_cons (pe_ix (ix_tupK K) (pv 0) pe_int (fun _ _ => rfl)) pa_nil)))))), fun ds d h => ?_⟩
  obtain ⟨r, hr', n, hf, hn⟩ := h
  have lb := hr'.lb
  have la := hr'.la
  have lg := hr'.lg
  have hgs := hr'.gs
  have hg : r.g.isEmpty = false := by
    cases e : r.g with
    | nil => exact absurd e hr'.g0
    | cons _ _ => rfl
  obtain ⟨f1, f2⟩ := hf
  refine sd_ret (rd_if (x := false) (rt_eq (rt_test (rd_op (rd_op (rd_var rfl) rd_int (od_ixT rfl)) (rd_tup ra_nil (le5 rfl)) od_eqW)) hg) (fun z => nomatch z) fun _ => rd_op (rd_op (rd_op (rd_var rfl) (rd_call (ra_one (rd_op (rd_var rfl) rd_int (od_ixT rfl))) (.mk r.b (by omega))) od_i) (rd_call (ra_one (rd_op (rd_var rfl) rd_int (od_ixT rfl))) (.mk r.a (by omega))) od_i) (rd_call (ra_one (rd_op (rd_var rfl) rd_int (od_ixT rfl))) (.mk r.g (by omega))) (od_C ?_)) ?_
  · show CDiv _ (r.gr : Int)
    exact ⟨by omega, by omega⟩
  · show D.int (((n : Int) - (tkW r.b : Int) - (tkW r.a : Int)) / (r.gr : Int)) = D.int ((r.turns n : Nat) : Int)
    congr 1
    unfold Rw.turns
    unfold Rw.need at f1 ⊢
    rw [show (n : Int) - (tkW r.b : Int) - (tkW r.a : Int) = ((n - (tkW r.b + tkW r.a) : Nat) : Int) by omega]
    rfl
abbrev s_worked : Stmt := topS 50
theorem sc_worked : FnScope ["row", "loops"] ["row", "loops"] (defScope s_worked) := ⟨rfl, rfl, rfl, by decide +kernel, rfl, by decide +kernel, by decide +kernel⟩
theorem ok_worked {f : Addr} {fd : FuncData} (F : Fun K "worked" "worked" s_worked f fd) (T : Txt K w mg kd CS CR CP) (c_turns_of : C8.Cal P w K mg base 2 "turns_of" (spF K (P_turns_of)) [])  : FnOk P w K mg base CX0 3 f fd ["row", "loops"] (spF K (P_worked)) := by
  have sc := sc_worked
  refine fnD F sc (fun ds d h => by cases h; rfl) fun cdv A outer s H E hr => ⟨_,
    (pss_one (ps_ret (pe_op op_catA (pe_op op_catA (pe_ix (ix_tupK K) (pv 0) pe_int (fun _ _ => rfl)) (pe_op op_repA (pe_ix (ix_tupK K) (pv 0) pe_int (fun _ _ => rfl)) (C8.pe_c c_turns_of hr (by decide) rfl (pa_cons (pv 0) (pa_cons (pv 1) pa_nil))))) (pe_ix (ix_tupK K) (pv 0) pe_int (fun _ _ => rfl))))), fun ds d h => ?_⟩
  obtain ⟨r, hr', n, hf, hn⟩ := h
  have lb := hr'.lb
  have la := hr'.la
  have lg := hr'.lg
  obtain ⟨w1, w2⟩ := work_len hr' hn
  have ht : r.turns n ≤ 200 := Nat.le_trans (Nat.div_le_self _ _) (by omega)
  refine sd_ret (rd_op (rd_op (rd_op (rd_var rfl) rd_int (od_ixT rfl)) (rd_eq (e := wD ((List.replicate (r.turns n) r.g).flatten)) (rd_op (rd_op (rd_var rfl) rd_int (od_ixT rfl)) (rd_call (ra_cons (rd_var rfl) (ra_one (rd_var rfl))) (.mk r hr' n hf hn)) (od_repA ?_ (by omega) (by omega) ?_)) ?_) (od_catA ?_)) (rd_op (rd_var rfl) rd_int (od_ixT rfl)) (od_catA ?_)) ?_
  · intro e
    exact hr'.g0 (List.map_eq_nil_iff.mp e)
  · rw [List.length_map]
    omega
  · rw [Int.toNat_natCast, rep_map]
    rfl
  · rw [List.length_map, List.length_map]
    omega
  · rw [List.length_append, List.length_map, List.length_map, List.length_map]
    omega
  · show D.tup _ = D.tup _
    rw [← List.map_append, ← List.map_append]
    rfl
abbrev s_is_steady_word : Stmt := topS 55
theorem sc_is_steady_word : FnScope ["word", "kind", "yarn"] ["word"] (defScope s_is_steady_word) := ⟨rfl, rfl, rfl, by decide +kernel, rfl, by decide +kernel, by decide +kernel⟩
theorem ok_is_steady_word {f : Addr} {fd : FuncData} (F : Fun K "is_steady_word" "is_steady_word" s_is_steady_word f fd) (T : Txt K w mg kd CS CR CP)   : FnOk P w K mg base CX0 1 f fd ["word"] (spF K (P_is_steady_word)) := by
  have sc := sc_is_steady_word
  refine fnD F sc (fun ds d h => by cases h; rfl) fun cdv A outer s H E hr => ⟨_,
    (pss_one (ps_ret (pe_callB (cr_allK K rfl) (by rfl) T.n_all (by decide +kernel) (pa_cons (pe_lc (own := [("kind", 1), ("yarn", 2)]) (g := (gTup K 2 (gCons (gName 1) (gCons (gName 2) gNil)))) (tt := tYes) rfl sc.nd (pi_tupK K (pv 0)) (blkOk_by (N := ["word", "kind", "yarn"]) (sc := defScope s_is_steady_word) (by decide +kernel)) (fun _ _ _ _ _ => (pg_tup rfl (pgs_cons (pg_name (i := 1) sc.nd rfl (Or.inl rfl)) (pgs_cons (pg_name (i := 2) sc.nd rfl (Or.inl rfl)) pgs_nil)))) (fun _ _ _ _ _ => pts_nil) (fun _ _ _ _ _ => (pe_chain op_eq op_gt (pe_ix (ix_tupK K) (pe_ix (ix_kdT T.kdict) (pe_glob (v := .ref kd) rfl T.g_KINDS rfl) (pv 1) (fun _ _ => rfl)) pe_int (fun _ _ => rfl)) (pe_ix (ix_tupK K) (pe_ix (ix_kdT T.kdict) (pe_glob (v := .ref kd) rfl T.g_KINDS rfl) (pv 1) (fun _ _ => rfl)) pe_int (fun _ _ => rfl)) pe_int))) pa_nil)))), fun ds d h => ?_⟩
  obtain ⟨w, hw⟩ := h
  refine sd_ret (rd_cb (ra_one (rd_eq (rd_lcM (enc := cellD) (f := fun k => .bl (decide ((k.tk : Int) = (k.tk : Int)) && decide ((k.tk : Int) > 0))) (wi_tup (rd_var rfl)) (by omega) fun k _ => ⟨_, _, gd_tup2, by decide, ?_⟩) ?_)) (cd_all (bs := w.map fun k => (decide ((k.tk : Int) = (k.tk : Int)) && decide ((k.tk : Int) > 0))))) ?_
  · exact rd_chain (rd_kix (rd_var rfl) (T.kat k) rfl fun _ => .int _) (rd_kix (rd_var rfl) (T.kat k) rfl fun _ => .int _) od_eqI (fun _ => rd_int) fun _ => od_b
  · rw [List.map_map]
    rfl
  · rw [List.all_map]
    show D.bl _ = D.bl _
    congr 1
    refine List.all_eq_true.mpr fun k _ => ?_
    have := (tk_pos k).1
    show (decide ((k.tk : Int) = (k.tk : Int)) && decide ((k.tk : Int) > 0)) = true
    rw [decide_eq_true rfl, decide_eq_true (by omega)]
    rfl
abbrev s_is_steady : Stmt := topS 56
theorem sc_is_steady : FnScope ["row", "word"] ["row"] (defScope s_is_steady) := ⟨rfl, rfl, rfl, by decide +kernel, rfl, by decide +kernel, by decide +kernel⟩
theorem ok_is_steady {f : Addr} {fd : FuncData} (F : Fun K "is_steady" "is_steady" s_is_steady f fd) (T : Txt K w mg kd CS CR CP) (c_is_steady_word : C8.Cal P w K mg base 1 "is_steady_word" (spF K (P_is_steady_word)) [])  : FnOk P w K mg base CX0 2 f fd ["row"] (spF K (P_is_steady)) := by
  have sc := sc_is_steady
  refine fnD F sc (fun ds d h => by cases h; rfl) fun cdv A outer s H E hr => ⟨_,
    (pss_one (ps_ret (pe_callB (cr_allK K rfl) (by rfl) T.n_all (by decide +kernel) (pa_cons (pe_lc (own := [("word", 1)]) (g := (gName 1)) (tt := tYes) rfl sc.nd (pi_tupK K (pv 0)) (blkOk_by (N := ["row", "word"]) (sc := defScope s_is_steady) (by decide +kernel)) (fun _ _ _ _ _ => (pg_name (i := 1) sc.nd rfl (Or.inl rfl))) (fun _ _ _ _ _ => pts_nil) (fun _ _ _ _ _ => (C8.pe_c c_is_steady_word hr (by decide) rfl (pa_cons (pv 1) pa_nil)))) pa_nil)))), fun ds d h => ?_⟩
  obtain ⟨r, hr'⟩ := h
  have lb := hr'.lb
  have lg := hr'.lg
  have la := hr'.la
  have hw : ∀ x ∈ [r.b, r.g, r.a], x.length ≤ 9999 := fun x hx => by
    simp only [List.mem_cons, List.not_mem_nil, or_false] at hx
    rcases hx with h | h | h <;> subst h <;> omega
  exact sd_ret (rd_cb (ra_one (rd_lcM (l := [r.b, r.g, r.a]) (enc := wD) (f := fun x => .bl true) (wi_tup (rd_var rfl)) (by simp) fun x hx => ⟨_, _, gd_name, by decide, rd_call (ra_one (rd_var rfl)) (.mk x (hw x hx))⟩)) (cd_all (bs := [true, true, true]))) rfl
abbrev s_check_steady : Stmt := topS 57
theorem sc_check_steady : FnScope ["rows", "row"] ["rows"] (defScope s_check_steady) := ⟨rfl, rfl, rfl, by decide +kernel, rfl, by decide +kernel, by decide +kernel⟩
theorem ok_check_steady {f : Addr} {fd : FuncData} (F : Fun K "check_steady" "check_steady" s_check_steady f fd) (T : Txt K w mg kd CS CR CP) (c_check_row : C8.Cal P w K mg base 5 "check_row" (spF K (P_check_row)) []) (c_is_steady : C8.Cal P w K mg base 2 "is_steady" (spF K (P_is_steady)) []) (c_shared_period : C8.Cal P w K mg base 2 "shared_period" (spF K (P_shared_period)) [])  : FnOk P w K mg base CX0 6 f fd ["rows"] (spF K (P_check_steady)) := by
  have sc := sc_check_steady
  refine fnD F sc (fun ds d h => by cases h; rfl) fun cdv A outer s H E hr => ⟨_,
    (pss_cons (ps_if (PW.pt (pw_or (pt_not (pt_val (pe_callB call_isi (by rfl) T.n_isinstance (by decide +kernel) (pa_cons (pv 0) (pa_cons (pe_bltn (v := .ty "tuple") (by rfl) T.n_tuple (by decide +kernel) rfl) pa_nil))))) (pw_or1 (pt_not (pt_chain op_le op_le pe_int (pe_callB call_len_seq (by rfl) T.n_len PySem.boot_len (pa_cons (pv 0) pa_nil)) (C8.pe_gc rfl T.g_MOST_ROWS)))))) (pss_one ps_never) pss_nil)
      (pss_cons (ps_for PassesOwn.never rfl (pi_tupK K (pv 0)) (pg_name (i := 1) sc.nd rfl (Or.inl rfl))
      (pss_cons (ps_expr (C8.pe_c c_check_row hr (by decide) rfl (pa_cons (pv 1) pa_nil)))
      (pss_one (ps_if (pt_not (pt_val (C8.pe_c c_is_steady hr (by decide) rfl (pa_cons (pv 1) pa_nil)))) (pss_one ps_never) pss_nil))))
      (pss_one (ps_if (pt_cmpR op_gt (C8.pe_c c_shared_period hr (by decide) rfl (pa_cons (pv 0) pa_nil)) (C8.pe_gc rfl T.g_MOST_PERIOD_crossing) (by first | exact nomark _ | rfl)) (pss_one ps_never) pss_nil)))), fun ds d h => ?_⟩
  obtain ⟨rows, hr'⟩ := h
  have l0 := hr'.l0
  have l1 := hr'.l1
  have hs := d4_le (shared_d4 hr'.ok).1
  refine sq_no (rt_eq (rt_or (rt_not (rt_B (rd_isi (rd_var rfl) rfl rfl))) fun _ => rt_not (rt_test (rd_chain rd_int (rd_cb (ra_one (rd_var rfl)) cd_lenW) od_b (fun _ => rd_int) fun _ => od_b))) ?_) ?_
  · rw [decide_eq_true (by omega : (1 : Int) ≤ (rows.length : Int)), decide_eq_true (by omega : (rows.length : Int) ≤ 6)]
    rfl
  refine sq_forM (l := rows) (enc := rowD) (wi_tup (rd_var rfl)) (fun i δ1 => ∃ s, δ1 = [.dat (rowsD rows), s]) ⟨_, rfl⟩ ?_ ?_
  · rintro i r δ1 hi ⟨s, rfl⟩
    have hr2 := hr'.ok r (List.mem_of_getElem? hi)
    refine ⟨_, _, gd_name, sq_drop (rd_call (ra_one (rd_var rfl)) (.mk r hr2)) ?_⟩
    exact sd_if (x := false) (rt_eq (rt_not (rt_B (rd_call (ra_one (rd_var rfl)) (.mk r hr2)))) rfl) (fun z => nomatch z) fun _ => sd_next ⟨_, rfl⟩
  · rintro δ1 ⟨s, rfl⟩
    exact sd_if (x := false) (rt_eq (rt_test (rd_op (rd_call (ra_one (rd_var rfl)) (.mk rows hr'.ok)) rd_int od_b)) (decide_eq_false (by omega))) (fun z => nomatch z) fun _ => sd_next rfl
abbrev s_shared_period : Stmt := topS 58
theorem sc_shared_period : FnScope ["rows", "found", "row"] ["rows"] (defScope s_shared_period) := ⟨rfl, rfl, rfl, by decide +kernel, rfl, by decide +kernel, by decide +kernel⟩
theorem ok_shared_period {f : Addr} {fd : FuncData} (F : Fun K "shared_period" "shared_period" s_shared_period f fd) (T : Txt K w mg kd CS CR CP) (c_common : C8.Cal P w K mg base 1 "common" (spF K (P_common)) []) (c_takes : C8.Cal P w K mg base 1 "takes" (spF K (P_takes)) [])  : FnOk P w K mg base CX0 2 f fd ["rows"] (spF K (P_shared_period)) := by
  have sc := sc_shared_period
  refine fnD F sc (fun ds d h => by cases h; rfl) fun cdv A outer s H E hr => ⟨_,
    (pss_cons (ps_set (i := 1) sc.nd rfl (Or.inl rfl) pe_int)
      (pss_cons (ps_for PassesOwn.never rfl (pi_tupK K (pv 0)) (pg_name (i := 2) sc.nd rfl (Or.inl rfl))
      (pss_one (ps_if (pt_cmpR (op_neDK K hr.units) (pe_ix (ix_tupK K) (pv 2) pe_int (fun _ _ => rfl)) (pe_tup pa_nil) (by first | exact nomark _ | rfl)) (pss_one (ps_set (i := 1) sc.nd rfl (Or.inl rfl) (C8.pe_c c_common hr (by decide) rfl (pa_cons (pv 1) (pa_cons (C8.pe_c c_takes hr (by decide) rfl (pa_cons (pe_ix (ix_tupK K) (pv 2) pe_int (fun _ _ => rfl)) pa_nil)) pa_nil))))) pss_nil)))
      (pss_one (ps_ret (pv 1))))), fun ds d h => ?_⟩
  obtain ⟨rows, ho⟩ := h
  refine sq_asg (rd_eq (e := nD 1) rd_int rfl) ?_
  refine sq_forM (l := rows) (enc := rowD) (wi_tup (rd_var rfl)) (fun i δ1 => ∃ s, δ1 = [.dat (rowsD rows), .dat (nD (shared (rows.take i))), s]) ⟨_, rfl⟩ ?_ ?_
  · rintro i r δ1 hi ⟨s, rfl⟩
    have hm := List.mem_of_getElem? hi
    have hr2 := ho r hm
    have lg := hr2.lg
    have hgs := hr2.gs
    have hg : r.g.isEmpty = false := by
      cases e : r.g with
      | nil => exact absurd e hr2.g0
      | cons _ _ => rfl
    have e : shared (rows.take (i + 1)) = Nat.lcm (shared (rows.take i)) r.gr := by
      rw [take_snoc hi]
      unfold shared
      rw [List.foldl_append]
      rfl
    have hp := (shared_d4 (rows := rows.take i) fun x hx => ho x (List.mem_of_mem_take hx)).2
    refine ⟨_, _, gd_name, sd_if (x := true) (rt_eq (rt_test (rd_op (rd_op (rd_var rfl) rd_int (od_ixT rfl)) (rd_tup ra_nil (le5 rfl)) od_neW)) (by rw [hg]; rfl)) (fun _ => ?_) (fun z => nomatch z)⟩
    refine sd_asg (rd_call (ra_cons (rd_var rfl) (ra_one (rd_call (ra_one (rd_op (rd_var rfl) rd_int (od_ixT rfl))) (.mk r.g (by omega))))) (.mk _ r.gr hp (by omega) (by omega))) ⟨.dat (rowD r), ?_⟩
    rw [e]
    rfl
  · rintro δ1 ⟨s, rfl⟩
    refine sd_ret (rd_var rfl) ?_
    rw [List.take_length]
abbrev s_sent_by : Stmt := topS 59
theorem sc_sent_by : FnScope ["word", "found", "kind", "yarn", "many", "begin", "half", "at"] ["word"] (defScope s_sent_by) := ⟨rfl, rfl, rfl, by decide +kernel, rfl, by decide +kernel, by decide +kernel⟩
theorem ok_sent_by {f : Addr} {fd : FuncData} (F : Fun K "sent_by" "sent_by" s_sent_by f fd) (T : Txt K w mg kd CS CR CP)   : FnOk P w K mg base CX0 1 f fd ["word"] (spF K (P_sent_by)) := by
  have sc := sc_sent_by
  refine fnD F sc (fun ds d h => by cases h; rfl) fun cdv A outer s H E hr => ⟨_,
    (pss_cons (ps_set (i := 1) sc.nd rfl (Or.inl rfl) (pe_lst pa_nil))
      (pss_cons (ps_for PassesOwn.never rfl (pi_tupK K (pv 0)) (pg_tup rfl (pgs_cons (pg_name (i := 2) sc.nd rfl (Or.inl rfl)) (pgs_cons (pg_name (i := 3) sc.nd rfl (Or.inl rfl)) pgs_nil)))
      (pss_cons (ps_asg (pe_tup (pa_cons (pe_ix (ix_tupK K) (pe_ix (ix_kdT T.kdict) (pe_glob (v := .ref kd) rfl T.g_KINDS rfl) (pv 2) (fun _ _ => rfl)) pe_int (fun _ _ => rfl)) (pa_cons (pe_callB call_len_seq (by rfl) T.n_len PySem.boot_len (pa_cons (pv 1) pa_nil)) pa_nil))) (pg_tup rfl (pgs_cons (pg_name (i := 4) sc.nd rfl (Or.inl rfl)) (pgs_cons (pg_name (i := 5) sc.nd rfl (Or.inr rfl)) pgs_nil))))
      (pss_cons (ps_set (i := 6) sc.nd rfl (Or.inr rfl) (pe_op op_fdiv (pv 4) pe_int))
      (pss_one (ps_aug (i := 1) sc.nd rfl (Or.inl rfl) (pe_op op_cat (pe_lc (own := [("at", 7)]) (g := (gName 7)) (tt := tYes) rfl sc.nd (pi_range1 rfl T.n_range (pa_cons (pe_op op_sub (pv 4) (pv 6)) pa_nil)) (blkOk_by (N := ["word", "found", "kind", "yarn", "many", "begin", "half", "at"]) (sc := defScope s_sent_by) (by decide +kernel)) (fun _ _ _ _ _ => (pg_name (i := 7) sc.nd rfl (Or.inl rfl))) (fun _ _ _ _ _ => pts_nil) (fun _ _ _ _ _ => (pe_op op_add (pe_op op_add (pv 5) (pv 6)) (pv 7)))) (pe_lc (own := [("at", 7)]) (g := (gName 7)) (tt := tYes) rfl sc.nd (pi_range1 rfl T.n_range (pa_cons (pv 6) pa_nil)) (blkOk_by (N := ["word", "found", "kind", "yarn", "many", "begin", "half", "at"]) (sc := defScope s_sent_by) (by decide +kernel)) (fun _ _ _ _ _ => (pg_name (i := 7) sc.nd rfl (Or.inl rfl))) (fun _ _ _ _ _ => pts_nil) (fun _ _ _ _ _ => (pe_op op_add (pv 5) (pv 7))))) iop_ext)))))
      (pss_one (ps_ret (pv 1))))), fun ds d h => ?_⟩
  obtain ⟨w, hw⟩ := h
  refine sq_newL fun p => ?_
  refine sq_forM (l := w) (enc := cellD) (wi_tup (rd_var rfl)) (fun i δ1 => ∃ s2 s3 s4 s5 s6, δ1 = [.dat (wD w), .ownL p ((sentBy (w.take i)).map nD), s2, s3, s4, s5, s6, .no]) ⟨_, _, _, _, _, rfl⟩ ?_ ?_
  · rintro i k δ1 hi ⟨s2, s3, s4, s5, s6, rfl⟩
    have hil := (List.getElem?_eq_some_iff.mp hi).1
    have e : sentBy (w.take (i + 1)) = sentBy (w.take i) ++ blk (sentBy (w.take i)).length k.tk := by
      rw [take_snoc hi]
      unfold sentBy
      rw [List.foldl_append]
      rfl
    have hlen : (sentBy (w.take i)).length ≤ 40000 := by
      rw [sentBy_len]
      refine Nat.le_trans (tkW_le _) ?_
      rw [List.length_take]
      omega
    obtain ⟨k1, k2⟩ := tk_pos k
    generalize hS : sentBy (w.take i) = S at e hlen ⊢
    refine ⟨_, _, gd_tup2, sq_asgG (rd_tup (ra_cons (rd_kix (rd_var rfl) (T.kat k) rfl fun _ => .int _) (ra_one (rd_lenO rfl))) (le5 rfl)) gd_tup2 ?_⟩
    rw [List.length_map]
    refine sq_asg (rd_eq (e := nD (k.tk / 2)) (rd_op (rd_var rfl) rd_int (od_C ⟨by decide, by decide⟩)) rfl) ?_
    refine sd_ext rfl (rd_eq (e := .lst ((blk S.length k.tk).map nD)) (rd_op (rd_lcM (l := List.range (k.tk - k.tk / 2)) (enc := nD) (f := fun i => nD (S.length + k.tk / 2 + i)) (wi_rngN (ra_one (rd_eq (e := nD (k.tk - k.tk / 2)) (rd_op (rd_var rfl) (rd_var rfl) od_i) ?_)) (by omega)) (by rw [List.length_range]; omega) fun i _ => ⟨_, _, gd_name, by decide, rd_eq (rd_op (rd_op (rd_var rfl) (rd_var rfl) od_i) (rd_var rfl) od_i) rfl⟩)
      (rd_lcM (l := List.range (k.tk / 2)) (enc := nD) (f := fun i => nD (S.length + i)) (wi_rngN (ra_one (rd_var rfl)) (by omega)) (by rw [List.length_range]; omega) fun i _ => ⟨_, _, gd_name, by decide, rd_eq (rd_op (rd_var rfl) (rd_var rfl) od_i) rfl⟩) (od_cat (by rw [List.length_map, List.length_map, List.length_range, List.length_range]; omega))) ?_) ?_ ⟨.dat (.str k.str), .dat (.str "a"), .dat (nD k.tk), .dat (nD S.length), .dat (nD (k.tk / 2)), ?_⟩
    · show D.int ((k.tk : Int) - ((k.tk / 2 : Nat) : Int)) = D.int ((k.tk - k.tk / 2 : Nat) : Int)
      congr 1
      omega
    · unfold blk
      rw [List.map_append, List.map_map, List.map_map]
      rfl
    · rw [List.length_map, List.length_map]
      unfold blk
      rw [List.length_append, List.length_map, List.length_map, List.length_range, List.length_range]
      omega
    · rw [e, List.map_append]
      rfl
  · rintro δ1 ⟨s2, s3, s4, s5, s6, rfl⟩
    rw [List.take_length]
    exact sd_frzL (i := 1) rfl (sd_ret (rd_var rfl) rfl)
abbrev s_round_of : Stmt := topS 60
theorem sc_round_of : FnScope ["rows", "way", "both", "at", "row"] ["rows", "way"] (defScope s_round_of) := ⟨rfl, rfl, rfl, by decide +kernel, rfl, by decide +kernel, by decide +kernel⟩
theorem ok_round_of {f : Addr} {fd : FuncData} (F : Fun K "round_of" "round_of" s_round_of f fd) (T : Txt K w mg kd CS CR CP) (c_behind_row : C8.Cal P w K mg base 2 "behind_row" (spF K (P_behind_row)) [])  : FnOk P w K mg base CX0 3 f fd ["rows", "way"] (spF K (P_round_of)) := by
  have sc := sc_round_of
  refine fnD F sc (fun ds d h => by cases h; rfl) fun cdv A outer s H E hr => ⟨_,
    (pss_cons (ps_if (pt_cmpR op_eq (pv 1) pe_str (by first | exact nomark _ | rfl)) (pss_one (ps_ret (pe_callTy call_list_of (by rfl) T.n_list (by decide +kernel) (pa_cons (pv 0) pa_nil)))) pss_nil)
      (pss_cons (ps_set (i := 2) sc.nd rfl (Or.inl rfl) (pe_ifExp (pt_cmpR op_eq (pe_op op_mod (pe_callB call_len_seq (by rfl) T.n_len PySem.boot_len (pa_cons (pv 0) pa_nil)) pe_int) pe_int (by first | exact nomark _ | rfl)) (pv 0) (pe_op op_catA (pv 0) (pv 0))))
      (pss_one (ps_ret (pe_lc (own := [("at", 3), ("row", 4)]) (g := (gTup K 2 (gCons (gName 3) (gCons (gName 4) gNil)))) (tt := tYes) rfl sc.nd (pi_enumT (by rfl) T.n_enumerate (pa_cons (pv 2) pa_nil)) (blkOk_by (N := ["rows", "way", "both", "at", "row"]) (sc := defScope s_round_of) (by decide +kernel)) (fun _ _ _ _ _ => (pg_tup rfl (pgs_cons (pg_name (i := 3) sc.nd rfl (Or.inl rfl)) (pgs_cons (pg_name (i := 4) sc.nd rfl (Or.inl rfl)) pgs_nil)))) (fun _ _ _ _ _ => pts_nil) (fun _ _ _ _ _ => (pe_ifExp (pt_cmpR op_eq (pe_op op_mod (pv 3) pe_int) pe_int (by first | exact nomark _ | rfl)) (C8.pe_c c_behind_row hr (by decide) rfl (pa_cons (pv 4) pa_nil)) (pv 4)))))))), fun ds d h => ?_⟩
  obtain ⟨rows, hr', b⟩ := h
  have l1 := hr'.l1
  cases b with
  | true => exact sq_if (x := true) (rt_eq (rt_test (rd_op (rd_var rfl) rd_str od_eqS)) rfl) (fun _ => sd_ret (rd_cb (ra_one (rd_var rfl)) cd_listT) rfl) fun z => nomatch z
  | false =>
    refine sq_no (rt_eq (rt_test (rd_op (rd_var rfl) rd_str od_eqS)) (by decide)) ?_
    refine sq_asg (rd_if (x := decide (rows.length % 2 = 0)) (d := rowsD (if rows.length % 2 = 0 then rows else rows ++ rows)) (rt_eq (rt_test (rd_op (rd_op (rd_cb (ra_one (rd_var rfl)) cd_lenW) rd_int (od_C (by show (0 : Int) < 2; decide))) rd_int od_eqI)) ?_) (fun h1 => rd_eq (rd_var rfl) ?_) (fun h1 => rd_eq (rd_op (rd_var rfl) (rd_var rfl) (od_catA ?_)) ?_)) ?_
    · apply decide_eq_decide.mpr
      omega
    · rw [if_pos (of_decide_eq_true h1)]
    · rw [List.length_map]
      omega
    · rw [if_neg (of_decide_eq_false h1), ← List.map_append]
      rfl
    · generalize hB : (if rows.length % 2 = 0 then rows else rows ++ rows) = B
      have hBl : B.length ≤ 12 := by
        subst hB
        split
        · omega
        · rw [List.length_append]
          omega
      have hBo : ∀ r ∈ B, r.Ok := fun r hr => by
        subst hB
        split at hr
        · exact hr'.ok r hr
        · rcases List.mem_append.mp hr with z | z <;> exact hr'.ok r z
      have hR : roundOf rows false = alt B := by
        rw [← hB]
        rfl
      refine sd_ret (rd_lcI (l := (List.range B.length).zip B) (enc := fun p => .tup [nD p.1, rowD p.2]) (es := (alt B).map rowD) (enumD_map rowD B ▸ wi_enumT (ra_one (rd_var rfl))) ?_ ?_ fun i x e hx he => ⟨_, _, gd_tup2, by decide, ?_⟩) ?_
      · rw [List.length_zip, List.length_range, Nat.min_self]
        omega
      · rw [List.length_zip, List.length_range, Nat.min_self, List.length_map]
        unfold alt
        rw [List.length_mapIdx]
      · obtain ⟨h1, h2⟩ := zipR_get hx
        have ho := hBo _ (List.mem_of_getElem? h1)
        have hil := (List.getElem?_eq_some_iff.mp h1).1
        have he2 : e = rowD (if i % 2 = 1 then x.2.back else x.2) := by
          rw [List.getElem?_map] at he
          unfold alt at he
          rw [List.getElem?_mapIdx, h1] at he
          cases he
          rfl
        rw [he2]
        refine rd_if (x := decide (i % 2 = 1)) (rt_eq (rt_test (rd_op (rd_op (rd_var rfl) rd_int (od_C (by show (0 : Int) < 2; decide))) rd_int od_eqI)) ?_) (fun h1 => ?_) (fun h1 => ?_)
        · rw [h2]
          apply decide_eq_decide.mpr
          omega
        · rw [if_pos (of_decide_eq_true h1)]
          exact rd_call (ra_one (rd_var rfl)) (.mk x.2 ho)
        · rw [if_neg (of_decide_eq_false h1)]
          exact rd_var rfl
      · rw [hR]
        rfl
abbrev s_where_fits : Stmt := topS 61
theorem sc_where_fits : FnScope ["rows", "found", "row"] ["rows"] (defScope s_where_fits) := ⟨rfl, rfl, rfl, by decide +kernel, rfl, by decide +kernel, by decide +kernel⟩
theorem ok_where_fits {f : Addr} {fd : FuncData} (F : Fun K "where_fits" "where_fits" s_where_fits f fd) (T : Txt K w mg kd CS CR CP) (m_Sizes___and__ : C8.Met P w K mg base 5 CS "__and__" (spF K (P_Sizes___and__ CS)) []) (k_Spot : C8.Mak P w K mg base 2 "Spot" CP (spI K CP (P_Spot___init__ CR)) []) (c_all_sizes : C8.Cal P w K mg base 5 "all_sizes" (spF K (P_all_sizes CS)) []) (c_fitting : C8.Cal P w K mg base 7 "fitting" (spF K (P_fitting CS CR CP)) []) (c_of_line : C8.Cal P w K mg base 4 "of_line" (spF K (P_of_line CR)) [])  : FnOk P w K mg base CX0 8 f fd ["rows"] (spF K (P_where_fits CS)) := by
  have sc := sc_where_fits
  refine fnD F sc (fun ds d h => by cases h; rfl) fun cdv A outer s H E hr => ⟨_,
    (pss_cons (ps_set (i := 1) sc.nd rfl (Or.inl rfl) (pe_c0 c_all_sizes hr (by decide) rfl))
      (pss_cons (ps_for PassesOwn.never rfl (pi_tupK K (pv 0)) (pg_name (i := 2) sc.nd rfl (Or.inl rfl))
      (pss_one (ps_set (i := 1) sc.nd rfl (Or.inl rfl) (pe_op (op_ownM (op := .BitAnd) m_Sizes___and__ T.selfS hr (by decide)) (pv 1) (C8.pe_c c_fitting hr (by decide) rfl (pa_cons (C8.pe_mk k_Spot hr (by decide) rfl (pa_cons pe_int (pa_cons pe_int (pa_cons (pv 2) (pa_cons (C8.pe_c c_of_line hr (by decide) rfl (pa_cons (pe_tup (pa_cons pe_int (pa_cons pe_int pa_nil))) pa_nil)) pa_nil))))) pa_nil))))))
      (pss_one (ps_ret (pv 1))))), fun ds d h => ?_⟩
  obtain ⟨rows, hr'⟩ := h
  refine sq_asg (rd_call ra_nil .mk) ?_
  refine sq_forM (l := rows) (enc := rowD) (wi_tup (rd_var rfl)) (fun i δ1 => ∃ s, δ1 = [.dat (rowsD rows), .dat (szD CS (wfA (rows.take i) allF)), s]) ⟨_, rfl⟩ ?_ ?_
  · rintro i r δ1 hi ⟨s, rfl⟩
    have hr2 := hr'.ok r (List.mem_of_getElem? hi)
    have e : wfA (rows.take (i + 1)) allF = sAnd (wfA (rows.take i) allF) (fitF r) := by
      rw [take_snoc hi]
      unfold wfA
      rw [List.foldl_append]
      rfl
    have b1 := wfA_B (rows.take i) allF (fun x hx => hr'.ok x (List.mem_of_mem_take hx)) allF_B
    have b2 := fitF_B hr2
    refine ⟨_, _, gd_name, sd_asg (rd_op (rd_var rfl) (rd_call (ra_one (rd_make (ra_cons rd_int (ra_cons rd_int (ra_cons (rd_var rfl) (ra_one (rd_call (ra_one (rd_tup (ra_cons rd_int (ra_one rd_int)) (le5 rfl))) .mk))))) (.mk r hr2))) (.mk r hr2)) (od_own (.mk _ (fitF r) ⟨b1.wf, b2.wf, ?_, ?_⟩))) ⟨.dat (rowD r), ?_⟩⟩
    · exact Nat.le_trans (d4_le (Nat.lcm_dvd b1.p4 b2.p4)) (by decide)
    · have := b1.st
      have := b2.st
      omega
    · rw [e]
      rfl
  · rintro δ1 ⟨s, rfl⟩
    rw [List.take_length]
    exact sd_ret (rd_var rfl) rfl
end
end K17
/-! the walk: crossing (second part) -/
namespace K17
open PySem L2 PySem.Spec PyProof.Rows
/-! cycles: bounds -/
theorem cyOne_le (places : List Nat) : ∀ (f : Nat) (known : List Nat) (now many : Nat), (cyOne places f known now many).2 ≤ many + f
  | 0, known, now, many => Nat.le_refl _
  | f + 1, known, now, many => by
    unfold cyOne
    split
    · exact Nat.le_add_right _ _
    · have := cyOne_le places f (known ++ [now]) (places.getD now 0) (many + 1)
      omega
theorem cyAll_le (places : List Nat) (b : Nat) (hb : places.length + 1 ≤ b) : ∀ (xs known found : List Nat), (∀ c ∈ found, 0 < c ∧ c ≤ b) → ∀ c ∈ cyAll places xs known found, 0 < c ∧ c ≤ b
  | [], known, found, h => h
  | x :: xs, known, found, h => by
    unfold cyAll
    refine cyAll_le places b hb xs _ _ fun c hc => ?_
    split at hc
    · rename_i h0
      rcases List.mem_append.mp hc with z | z
      · exact h c z
      · rw [List.mem_singleton] at z
        subst z
        have := cyOne_le places (places.length + 1 - known.length) known x 0
        exact ⟨h0, by omega⟩
    · exact h c hc
theorem cycles_le (places : List Nat) : ∀ c ∈ cycles places, 0 < c ∧ c ≤ places.length + 1 := cyAll_le places _ (Nat.le_refl _) _ _ _ fun c hc => by cases hc
theorem onesD_len (l : List Nat) : (onesD l).length ≤ l.length := by
  have g : ∀ (l : List Nat) (acc : List (Key × D)), ((l.map nD).foldl (fun acc d => putKD acc (keyOf d) (.bl true)) acc).length ≤ acc.length + l.length := by
    intro l
    induction l with
    | nil => intro acc; exact Nat.le_refl _
    | cons a l ih =>
      intro acc
      rw [List.map_cons, List.foldl_cons, List.length_cons]
      have h1 := ih (putKD acc (keyOf (nD a)) (.bl true))
      have h2 := len_putKD acc (keyOf (nD a)) (.bl true)
      omega
  have := g l []
  rw [List.length_nil, Nat.zero_add] at this
  exact this
theorem onesD_snoc (l : List Nat) (n : Nat) : putKD (onesD l) (.inl (n : Int)) (.bl true) = onesD (l ++ [n]) := by
  unfold onesD
  rw [List.map_append, List.foldl_append]
  rfl
theorem nodup_snoc {l : List Nat} {x : Nat} (h : l.Nodup) (hx : x ∉ l) : (l ++ [x]).Nodup := by
  rw [List.nodup_append]
  refine ⟨h, by simp, fun a ha b hb e => ?_⟩
  rw [List.mem_singleton] at hb
  subst hb
  exact hx (e ▸ ha)
section
variable {P : Program} {w : World} {K : PySem.W.Frag} {mg : Str → Option Value} {base : Heap} {kd CS CR CP : Addr}
inductive P_sent_round : List D → D → Prop
  | mk (rows : List Rw) (h : ∀ r ∈ rows, r.Ok) (n : Nat) (h2 : FitAll rows n) (hn : n ≤ 200) : P_sent_round [rowsL rows, nD n] (nsL (sentRound rows n))
inductive P_sent : List D → D → Prop
  | mk (rows : List Rw) (h : RowsOk rows) (n : Nat) (h2 : ∀ r ∈ rows, r.fits n) (hn : n ≤ 200) (b : Bool) : P_sent [rowsD rows, nD n, .str (wayS b)] (nsL (sentRound (roundOf rows b) n))
inductive P_sent_many : List D → D → Prop
  | mk (places : List Nat) (n : Nat) (h : places.Perm (List.range n)) (hn : n ≤ 200) (m : Nat) (hm : m ≤ 1000) : P_sent_many [nsL places, nD m] (nsL (sentMany places m))
inductive P_cycles : List D → D → Prop
  | mk (places : List Nat) (n : Nat) (h : places.Perm (List.range n)) (hn : n ≤ 200) : P_cycles [nsL places] (nsL (cycles places))
inductive P_back_after : List D → D → Prop
  | mk (rows : List Rw) (h : RowsOk rows) (n : Nat) (h2 : ∀ r ∈ rows, r.fits n) (hn : n ≤ 200) (b : Bool) : P_back_after [rowsD rows, nD n, .str (wayS b)] (nD (backAfter rows n b))
inductive P_is_back : List D → D → Prop
  | mk (places : List Nat) (n : Nat) (h : places.Perm (List.range n)) (hn : n ≤ 200) (m : Nat) (hm : m ≤ 1000) : P_is_back [nsL places, nD m] (.bl (isBack places m))
inductive P_where_back (CS : Addr) : List D → D → Prop
  | mk (rows : List Rw) (m : Nat) (b : Bool) (h : WbOk rows m b) : P_where_back CS [rowsD rows, nD m, .str (wayS b)] (szD CS (whereBack rows m b))
theorem fnDF {x qual : Str} {st : Stmt} {dvs : List V} {f : Addr} {fd : FuncData} {N ps : List Str} {k : Nat} {Pre : List D → D → Prop}
    (F : FunD K x qual (defArgs st) (defBody st) (defScope st) dvs [] f fd) (S : FnScope N ps (defScope st)) (hl : ∀ ds d, Pre ds d → ds.length = ps.length)
    (body : ∀ (cdv : Value) (A : Around) (outer : List Env) (s : Shared) (H : Hp) (E : XK), Room k (A.deeper (envOfC qual (defScope st) s.heap.objs.size f cdv)) →
      ∃ t, PSs (cxOf CX0 P w K mg base N qual (defScope st) f cdv A outer s H E).nox (defBody st) t ∧ ∀ ds d, Pre ds d → SD K t (dstart N ds) (fun _ => d = .non) (fun _ e => e = d)) : FnOk P w K mg base CX0 (k + 1) f fd ps (spF K Pre) := by
  obtain ⟨oc, od, dV, kV, doc, pm, an, cdv, ct, osl, e, lk, hcd, _, _⟩ := F.ex
  exact fnDD (dvs := dvs) ⟨oc, od, dV, kV, doc, pm, an, cdv, ct, osl, e, lk, hcd⟩ S hl body
abbrev s_sent_round : Stmt := topS 63
theorem sc_sent_round : FnScope ["rows", "loops", "found", "row", "places", "place"] ["rows", "loops"] (defScope s_sent_round) := ⟨rfl, rfl, rfl, by decide +kernel, rfl, by decide +kernel, by decide +kernel⟩
theorem ok_sent_round {f : Addr} {fd : FuncData} (F : Fun K "sent_round" "sent_round" s_sent_round f fd) (T : Txt K w mg kd CS CR CP) (c_sent_by : C8.Cal P w K mg base 1 "sent_by" (spF K (P_sent_by)) []) (c_worked : C8.Cal P w K mg base 3 "worked" (spF K (P_worked)) [])  : FnOk P w K mg base CX0 4 f fd ["rows", "loops"] (spF K (P_sent_round)) := by
  have sc := sc_sent_round
  refine fnD F sc (fun ds d h => by cases h; rfl) fun cdv A outer s H E hr => ⟨_,
    (pss_cons (ps_set (i := 2) sc.nd rfl (Or.inl rfl) (pe_listRg rfl (by rfl) T.n_list (prg_1 (by rfl) T.n_range (pv 1))))
      (pss_cons (ps_for PassesOwn.never rfl (pi_listK K (pv 0)) (pg_name (i := 3) sc.nd rfl (Or.inl rfl))
      (pss_cons (ps_set (i := 4) sc.nd rfl (Or.inr rfl) (C8.pe_c c_sent_by hr (by decide) rfl (pa_cons (C8.pe_c c_worked hr (by decide) rfl (pa_cons (pv 3) (pa_cons (pv 1) pa_nil))) pa_nil)))
      (pss_one (ps_setLc (i := 2) (own := [("place", 5)]) (g := (gName 5)) (tt := tYes) rfl sc.nd rfl rfl (sw_true rfl rfl rfl (by decide +kernel)) (pi_listK K (pv 2)) (blkOk_by (N := ["rows", "loops", "found", "row", "places", "place"]) (sc := defScope s_sent_round) (by decide +kernel)) (fun _ _ _ _ _ => (pg_name (i := 5) sc.nd rfl (Or.inl rfl))) (fun _ _ _ _ _ => pts_nil) (fun _ _ _ _ _ => (pe_ix (ix_listK K) (pv 4) (pv 5) (fun _ _ => rfl)))))))
      (pss_one (ps_ret (pv 2))))), fun ds d h => ?_⟩
  obtain ⟨rows, ho, n, hf, hn⟩ := h
  refine sq_asg (rd_listRgN (rd_var rfl) (by omega)) ?_
  refine sq_forM (l := rows) (enc := rowD) (wi_list (rd_var rfl)) (fun i δ1 => ∃ s3 s4, δ1 = [.dat (rowsL rows), .dat (nD n), .dat (nsL (sentR (rows.take i) n (List.range n))), s3, s4, .no]) ⟨_, _, rfl⟩ ?_ ?_
  · rintro i r δ1 hi ⟨s3, s4, rfl⟩
    have hm := List.mem_of_getElem? hi
    have hr2 := ho r hm
    obtain ⟨f1, f2⟩ := hf r hm
    have hw := (work_len hr2 hn).2
    have e : sentR (rows.take (i + 1)) n (List.range n) = move (sentBy (r.work n)) (sentR (rows.take i) n (List.range n)) := by
      rw [take_snoc hi]
      unfold sentR
      rw [List.foldl_append]
      rfl
    have hp := sentR_perm (rows.take i) (List.range n) (fun x hx => hf x (List.mem_of_mem_take hx)) (List.Perm.refl _)
    have hps := sentBy_len (r.work n)
    rw [work_tk f1 f2] at hps
    refine ⟨_, _, gd_name, sq_asg (rd_call (ra_one (rd_call (ra_cons (rd_var rfl) (ra_one (rd_var rfl))) (.mk r hr2 n f1 hn))) (.mk _ hw)) ?_⟩
    refine sd_asg (rd_lcM (l := sentR (rows.take i) n (List.range n)) (enc := nD) (f := fun p => nD ((sentBy (r.work n)).getD p 0)) (wi_list (rd_var rfl)) (by rw [perm_len hp]; omega) fun p hp2 => ⟨_, _, gd_name, by decide, rd_op (rd_var rfl) (rd_var rfl) (od_ixL (at_n ?_))⟩) ⟨.dat (rowD r), .dat (nsL (sentBy (r.work n))), ?_⟩
    · rw [hps]
      exact perm_lt hp p hp2
    · rw [e]
      unfold move nsL
      rw [List.map_map]
      rfl
  · rintro δ1 ⟨s3, s4, rfl⟩
    rw [List.take_length]
    exact sd_ret (rd_var rfl) rfl
abbrev s_sent_many : Stmt := topS 64
theorem sc_sent_many : FnScope ["places", "many", "found", "turn", "place"] ["places", "many"] (defScope s_sent_many) := ⟨rfl, rfl, rfl, by decide +kernel, rfl, by decide +kernel, by decide +kernel⟩
theorem ok_sent_many {f : Addr} {fd : FuncData} (F : Fun K "sent_many" "sent_many" s_sent_many f fd) (T : Txt K w mg kd CS CR CP)   : FnOk P w K mg base CX0 1 f fd ["places", "many"] (spF K (P_sent_many)) := by
  have sc := sc_sent_many
  refine fnD F sc (fun ds d h => by cases h; rfl) fun cdv A outer s H E hr => ⟨_,
    (pss_cons (ps_set (i := 2) sc.nd rfl (Or.inl rfl) (pe_listRg rfl (by rfl) T.n_list (prg_1 (by rfl) T.n_range (pe_callB call_len_seq (by rfl) T.n_len PySem.boot_len (pa_cons (pv 0) pa_nil)))))
      (pss_cons (ps_for PassesOwn.never rfl (pi_range1 rfl T.n_range (pa_cons (pv 1) pa_nil)) (pg_name (i := 3) sc.nd rfl (Or.inl rfl))
      (pss_one (ps_setLc (i := 2) (own := [("place", 4)]) (g := (gName 4)) (tt := tYes) rfl sc.nd rfl rfl (sw_true rfl rfl rfl (by decide +kernel)) (pi_listK K (pv 2)) (blkOk_by (N := ["places", "many", "found", "turn", "place"]) (sc := defScope s_sent_many) (by decide +kernel)) (fun _ _ _ _ _ => (pg_name (i := 4) sc.nd rfl (Or.inl rfl))) (fun _ _ _ _ _ => pts_nil) (fun _ _ _ _ _ => (pe_ix (ix_listK K) (pv 0) (pv 4) (fun _ _ => rfl))))))
      (pss_one (ps_ret (pv 2))))), fun ds d h => ?_⟩
  obtain ⟨places, n, hp, hn, m, hm⟩ := h
  have hpl := perm_len hp
  refine sq_asg (rd_listRgN (rd_cb (ra_one (rd_var rfl)) cd_lenWL) (by omega)) ?_
  refine sq_forM (l := List.range m) (enc := nD) (wi_rngN (ra_one (rd_var rfl)) (by omega)) (fun i δ1 => ∃ s3, δ1 = [.dat (nsL places), .dat (nD m), .dat (nsL (sentMany places i)), s3, .no]) ⟨_, rfl⟩ ?_ ?_
  · rintro i x δ1 hi ⟨s3, rfl⟩
    have hq := sentMany_perm hp i
    refine ⟨_, _, gd_name, sd_asg (rd_lcM (l := sentMany places i) (enc := nD) (f := fun p => nD (places.getD p 0)) (wi_list (rd_var rfl)) (by rw [perm_len hq]; omega) fun p hp2 => ⟨_, _, gd_name, by decide, rd_op (rd_var rfl) (rd_var rfl) (od_ixL (at_n ?_))⟩) ⟨.dat (nD x), ?_⟩⟩
    · rw [hpl]
      exact perm_lt hq p hp2
    · show _ = [_, _, Sl.dat (nsL (move places (sentMany places i))), _, _]
      unfold move nsL
      rw [List.map_map]
      rfl
  · rintro δ1 ⟨s3, rfl⟩
    rw [List.length_range]
    exact sd_ret (rd_var rfl) rfl
abbrev s_is_back : Stmt := topS 68
theorem sc_is_back : FnScope ["places", "rounds"] ["places", "rounds"] (defScope s_is_back) := ⟨rfl, rfl, rfl, by decide +kernel, rfl, by decide +kernel, by decide +kernel⟩
theorem ok_is_back {f : Addr} {fd : FuncData} (F : Fun K "is_back" "is_back" s_is_back f fd) (T : Txt K w mg kd CS CR CP) (c_sent_many : C8.Cal P w K mg base 1 "sent_many" (spF K (P_sent_many)) [])  : FnOk P w K mg base CX0 2 f fd ["places", "rounds"] (spF K (P_is_back)) := by
  have sc := sc_is_back
  refine fnD F sc (fun ds d h => by cases h; rfl) fun cdv A outer s H E hr => ⟨_,
    (pss_one (ps_ret (pe_cmpR (op_eqDK K hr.units) (C8.pe_c c_sent_many hr (by decide) rfl (pa_cons (pv 0) (pa_cons (pv 1) pa_nil))) (pe_listRg rfl (by rfl) T.n_list (prg_1 (by rfl) T.n_range (pe_callB call_len_seq (by rfl) T.n_len PySem.boot_len (pa_cons (pv 0) pa_nil)))) (by first | exact nomark _ | rfl)))), fun ds d h => ?_⟩
  obtain ⟨places, n, hp, hn, m, hm⟩ := h
  have hpl := perm_len hp
  have e1 : ∀ l : List Nat, nsL l = .lst ((l.map fun (n : Nat) => (n : Int)).map D.int) := fun l => by
    unfold nsL
    rw [nI_map]
  refine sd_ret (rd_op (rd_eq (rd_call (ra_cons (rd_var rfl) (ra_one (rd_var rfl))) (.mk places n hp hn m hm)) (e1 _)) (rd_eq (rd_listRgN (rd_cb (ra_one (rd_var rfl)) cd_lenWL) (by omega)) (e1 _)) od_eqLI) ?_
  show D.bl _ = D.bl _
  congr 1
  unfold isBack
  apply decide_eq_decide.mpr
  constructor
  · intro h
    have hinj : Function.Injective fun (n : Nat) => (n : Int) := fun a b h => Int.ofNat.inj h
    exact (List.map_inj_right fun a b h => Int.ofNat.inj h).mp h
  · intro h
    rw [h]
abbrev s_sent : Stmt := topS 62
theorem sc_sent : FnScope ["rows", "loops", "way", "place", "row", "why"] ["rows", "loops", "way"] (defScope s_sent) := ⟨rfl, rfl, rfl, by decide +kernel, rfl, by decide +kernel, by decide +kernel⟩
theorem ok_sent {f : Addr} {fd : FuncData} (F : FunD K "sent" "sent" (defArgs s_sent) (defBody s_sent) (defScope s_sent) [.str "round"] [] f fd) (T : Txt K w mg kd CS CR CP) (c_check_size : C8.Cal P w K mg base 2 "check_size" (spF K (P_check_size)) []) (c_check_steady : C8.Cal P w K mg base 6 "check_steady" (spF K (P_check_steady)) []) (c_round_of : C8.Cal P w K mg base 3 "round_of" (spF K (P_round_of)) []) (c_sent_round : C8.Cal P w K mg base 4 "sent_round" (spF K (P_sent_round)) []) (c_trouble_of : C8.Cal P w K mg base 2 "trouble_of" (spF K (P_trouble_of)) [])  : FnOk P w K mg base CX0 7 f fd ["rows", "loops", "way"] (spF K (P_sent)) := by
  have sc := sc_sent
  refine fnDF F sc (fun ds d h => by cases h; rfl) fun cdv A outer s H E hr => ⟨_,
    (pss_cons (ps_expr (C8.pe_c c_check_steady hr (by decide) rfl (pa_cons (pv 0) pa_nil)))
      (pss_cons (ps_expr (C8.pe_c c_check_size hr (by decide) rfl (pa_cons (pv 1) pa_nil)))
      (pss_cons (ps_for PassesOwn.never rfl (pi_enumT (by rfl) T.n_enumerate (pa_cons (pv 0) pa_nil)) (pg_tup rfl (pgs_cons (pg_name (i := 3) sc.nd rfl (Or.inl rfl)) (pgs_cons (pg_name (i := 4) sc.nd rfl (Or.inl rfl)) pgs_nil)))
      (pss_cons (ps_set (i := 5) sc.nd rfl (Or.inl rfl) (C8.pe_c c_trouble_of hr (by decide) rfl (pa_cons (pv 4) (pa_cons (pv 1) pa_nil))))
      (pss_one (ps_if (pt_cmpR op_notN (pv 5) pe_non (by first | exact nomark _ | rfl)) (pss_one ps_never) pss_nil))))
      (pss_one (ps_ret (C8.pe_c c_sent_round hr (by decide) rfl (pa_cons (C8.pe_c c_round_of hr (by decide) rfl (pa_cons (pv 0) (pa_cons (pv 2) pa_nil))) (pa_cons (pv 1) pa_nil)))))))), fun ds d h => ?_⟩
  obtain ⟨rows, hr', n, hf, hn, b⟩ := h
  have l1 := hr'.l1
  refine sq_drop (rd_call (ra_one (rd_var rfl)) (.mk rows hr')) (sq_drop (rd_call (ra_one (rd_var rfl)) (.mk n)) ?_)
  refine sq_forM (l := (List.range rows.length).zip rows) (enc := fun p => .tup [nD p.1, rowD p.2]) (enumD_map rowD rows ▸ wi_enumT (ra_one (rd_var rfl))) (fun i δ1 => ∃ s3 s4 s5, δ1 = [.dat (rowsD rows), .dat (nD n), .dat (.str (wayS b)), s3, s4, s5]) ⟨_, _, _, rfl⟩ ?_ ?_
  · rintro i x δ1 hi ⟨s3, s4, s5, rfl⟩
    obtain ⟨h1, _⟩ := zipR_get hi
    have hm := List.mem_of_getElem? h1
    refine ⟨_, _, gd_tup2, sq_asg (rd_call (ra_cons (rd_var rfl) (ra_one (rd_var rfl))) (.mk x.2 (hr'.ok _ hm) n (hf _ hm))) ?_⟩
    exact sd_if (x := false) (rt_eq (rt_test (rd_op (rd_var rfl) rd_non od_notN)) rfl) (fun z => nomatch z) fun _ => sd_next ⟨_, _, _, rfl⟩
  · rintro δ1 ⟨s3, s4, s5, rfl⟩
    exact sd_ret (rd_call (ra_cons (rd_call (ra_cons (rd_var rfl) (ra_one (rd_var rfl))) (.mk rows hr' b)) (ra_one (rd_var rfl))) (.mk _ (roundOf_ok hr') n (fitAll_round hr' hf) hn)) rfl
abbrev s_cycles : Stmt := topS 65
theorem sc_cycles : FnScope ["places", "found", "known", "place", "many", "now"] ["places"] (defScope s_cycles) := ⟨rfl, rfl, rfl, by decide +kernel, rfl, by decide +kernel, by decide +kernel⟩
theorem ok_cycles {f : Addr} {fd : FuncData} (F : Fun K "cycles" "cycles" s_cycles f fd) (T : Txt K w mg kd CS CR CP)   : FnOk P w K mg base CX0 1 f fd ["places"] (spF K (P_cycles)) := by
  have sc := sc_cycles
  refine fnD F sc (fun ds d h => by cases h; rfl) fun cdv A outer s H E hr => ⟨_,
    (pss_cons (ps_par (i := 1) (j := 2) rfl sc.nd rfl rfl (by decide) rfl rfl (pa_cons (pe_lst pa_nil) (pa_cons pe_dnewK pa_nil)) rfl)
      (pss_cons (ps_for PassesOwn.never rfl (pi_range1 rfl T.n_range (pa_cons (pe_callB call_len_seq (by rfl) T.n_len PySem.boot_len (pa_cons (pv 0) pa_nil)) pa_nil)) (pg_name (i := 3) sc.nd rfl (Or.inl rfl))
      (pss_cons (ps_par (i := 4) (j := 5) rfl sc.nd rfl rfl (by decide) rfl rfl (pa_cons pe_int (pa_cons (pv 3) pa_nil)) rfl)
      (pss_cons (ps_while PassesOwn.never (pt_cmp (pc_dnotin (hu_of hr) (pv 5) (pv 2)))
      (pss_cons (ps_dput (hu_of hr) (pv 2) (pv 5) pe_bl rfl)
      (pss_one (ps_par (i := 4) (j := 5) rfl sc.nd rfl rfl (by decide) rfl rfl (pa_cons (pe_op op_add (pv 4) pe_int) (pa_cons (pe_ix (ix_listK K) (pv 0) (pv 5) (fun _ _ => rfl)) pa_nil)) rfl))))
      (pss_one (ps_if (pt_cmpR op_gt (pv 4) pe_int (by first | exact nomark _ | rfl)) (pss_one (ps_expr (pe_bm PySem.F.plainAttrs_list PySem.F.slot_list_append PySem.F.type_list_append mt_append (pv 1) (pa_cons (pv 4) pa_nil)))) pss_nil)))))
      (pss_one (ps_ret (pv 1))))), fun ds d h => ?_⟩
  obtain ⟨places, n, hp, hn⟩ := h
  have hpl := perm_len hp
  refine sd_seq (N' := fun δ1 => ∃ p q, δ1 = [.dat (nsL places), .ownL p [], .ownD q [], .no, .no, .no]) (sd_newLD (by decide) fun p q => ⟨p, q, rfl⟩) ?_
  rintro δ0 ⟨p, q, rfl⟩
  refine sq_forM (l := List.range places.length) (enc := nD) (wi_rngN (ra_one (rd_cb (ra_one (rd_var rfl)) cd_lenWL)) (by omega)) (fun i δ1 => ∃ (known found : List Nat) (s3 s4 s5 : Sl), known.Nodup ∧ (∀ x ∈ known, x < n) ∧ found.length ≤ i ∧ cyAll places ((List.range places.length).drop i) known found = cycles places ∧
    δ1 = [.dat (nsL places), .ownL p (found.map nD), .ownD q (onesD known), s3, s4, s5]) ⟨[], [], _, _, _, List.nodup_nil, (fun x hx => nomatch hx), Nat.le_refl _, rfl, rfl⟩ ?_ ?_
  · rintro i x δ1 hi ⟨known, found, s3, s4, s5, hk1, hk2, hfl, hcy, rfl⟩
    obtain ⟨hil, hix⟩ := List.getElem?_eq_some_iff.mp hi
    rw [List.getElem_range] at hix
    rw [List.length_range] at hil
    subst hix
    refine ⟨_, _, gd_name, sq_par (a := nD 0) (ra_cons (rd_eq rd_int rfl) (ra_one (rd_var rfl))) ?_⟩
    have hdrop : (List.range places.length).drop i = i :: (List.range places.length).drop (i + 1) := by
      rw [List.drop_eq_getElem_cons (by rw [List.length_range]; exact hil), List.getElem_range]
    rw [hdrop] at hcy
    have hkl : known.length ≤ n := nodup_lt hk1 hk2
    refine sq_while (fun m δ2 => ∃ (kn : List Nat) (now many : Nat), kn.Nodup ∧ (∀ x ∈ kn, x < n) ∧ now < n ∧ m = n - kn.length ∧ cyOne places (n + 1 - kn.length) kn now many = cyOne places (n + 1 - known.length) known i 0 ∧
      δ2 = [.dat (nsL places), .ownL p (found.map nD), .ownD q (onesD kn), .dat (nD i), .dat (nD many), .dat (nD now)]) (n - known.length) ⟨known, i, 0, hk1, hk2, by omega, rfl, rfl, rfl⟩ ?_
    rintro m δ2 ⟨kn, now, many, q1, q2, hnow, rfl, hc, rfl⟩
    have hknl : kn.length ≤ n := nodup_lt q1 q2
    refine ⟨!decide (now ∈ kn), rt_eq (rt_B (rd_dniO (k := .inl (now : Int)) rfl (rd_var rfl))) (by rw [hasK_ones]), fun hb => ?_, fun hb => ?_⟩
    · have hnk : now ∉ kn := by simpa using hb
      have hnk2 := nodup_snoc q1 hnk
      have hlt2 : ∀ x ∈ kn ++ [now], x < n := fun x hx => by
        rcases List.mem_append.mp hx with z | z
        · exact q2 x z
        · rw [List.mem_singleton] at z; rw [z]; exact hnow
      have hl2 := nodup_lt hnk2 hlt2
      rw [List.length_append, List.length_singleton] at hl2
      refine sq_dput (k := .inl (now : Int)) rfl rd_bl (rd_var rfl) (Nat.lt_of_le_of_lt (onesD_len kn) (by omega)) ?_
      rw [onesD_snoc]
      have hnx : places.getD now 0 < n := by
        rw [List.getD_eq_getElem?_getD, List.getElem?_eq_getElem (by omega)]
        exact perm_lt hp _ (List.getElem_mem _)
      refine sd_par (a := nD (many + 1)) (b := nD (places.getD now 0)) (ra_cons (rd_eq (rd_op (rd_var rfl) rd_int od_i) rfl) (ra_one (rd_op (rd_var rfl) (rd_var rfl) (od_ixL (at_n (by omega)))))) ⟨n - (kn ++ [now]).length, ?_, kn ++ [now], places.getD now 0, many + 1, hnk2, hlt2, hnx, rfl, ?_, rfl⟩
      · rw [List.length_append, List.length_singleton]
        omega
      · rw [← hc, List.length_append, List.length_singleton]
        rw [show n + 1 - kn.length = (n + 1 - (kn.length + 1)) + 1 by omega]
        conv => rhs; unfold cyOne
        rw [if_neg hnk]
    · have hnk : now ∈ kn := by simpa using hb
      have hR : cyOne places (n + 1 - known.length) known i 0 = (kn, many) := by
        rw [← hc, show n + 1 - kn.length = (n - kn.length) + 1 by omega]
        unfold cyOne
        rw [if_pos hnk]
      have hcy2 : cyAll places ((List.range places.length).drop (i + 1)) kn (if 0 < many then found ++ [many] else found) = cycles places := by
        rw [← hcy]
        conv => rhs; unfold cyAll
        rw [hpl, hR]
      refine sd_if (x := decide ((many : Int) > 0)) (rt_test (rd_op (rd_var rfl) rd_int od_b)) (fun h0 => ?_) (fun h0 => ?_)
      · have h0 := of_decide_eq_true h0
        rw [if_pos (by omega)] at hcy2
        refine sd_app rfl (rd_var rfl) (by rw [List.length_map]; omega) ⟨kn, found ++ [many], .dat (nD i), .dat (nD many), .dat (nD now), q1, q2, by rw [List.length_append, List.length_singleton]; omega, hcy2, ?_⟩
        rw [List.map_append]
        rfl
      · have h0 := of_decide_eq_false h0
        rw [if_neg (by omega)] at hcy2
        exact sd_next ⟨kn, found, _, _, _, q1, q2, by omega, hcy2, rfl⟩
  · rintro δ1 ⟨known, found, s3, s4, s5, hk1, hk2, hfl, hcy, rfl⟩
    rw [List.drop_length] at hcy
    have e : found = cycles places := hcy
    subst e
    exact sd_frzL (i := 1) rfl (sd_ret (rd_var rfl) rfl)
abbrev s_back_after : Stmt := topS 66
theorem sc_back_after : FnScope ["rows", "loops", "way", "found", "many"] ["rows", "loops", "way"] (defScope s_back_after) := ⟨rfl, rfl, rfl, by decide +kernel, rfl, by decide +kernel, by decide +kernel⟩
theorem ok_back_after {f : Addr} {fd : FuncData} (F : FunD K "back_after" "back_after" (defArgs s_back_after) (defBody s_back_after) (defScope s_back_after) [.str "round"] [] f fd) (T : Txt K w mg kd CS CR CP) (c_common : C8.Cal P w K mg base 1 "common" (spF K (P_common)) []) (c_cycles : C8.Cal P w K mg base 1 "cycles" (spF K (P_cycles)) []) (c_sent : C8.Cal P w K mg base 7 "sent" (spF K (P_sent)) [])  : FnOk P w K mg base CX0 8 f fd ["rows", "loops", "way"] (spF K (P_back_after)) := by
  have sc := sc_back_after
  refine fnDF F sc (fun ds d h => by cases h; rfl) fun cdv A outer s H E hr => ⟨_,
    (pss_cons (ps_set (i := 3) sc.nd rfl (Or.inl rfl) pe_int)
      (pss_cons (ps_for PassesOwn.never rfl (pi_listK K (C8.pe_c c_cycles hr (by decide) rfl (pa_cons (C8.pe_c c_sent hr (by decide) rfl (pa_cons (pv 0) (pa_cons (pv 1) (pa_cons (pv 2) pa_nil)))) pa_nil))) (pg_name (i := 4) sc.nd rfl (Or.inl rfl))
      (pss_one (ps_set (i := 3) sc.nd rfl (Or.inl rfl) (C8.pe_c c_common hr (by decide) rfl (pa_cons (pv 3) (pa_cons (pv 4) pa_nil))))))
      (pss_one (ps_ret (pv 3))))), fun ds d h => ?_⟩
  obtain ⟨rows, hr', n, hf, hn, b⟩ := h
  have hp := sentRound_perm (fitAll_round (b := b) hr' hf)
  have hcl := cycles_le (sentRound (roundOf rows b) n)
  rw [perm_len hp] at hcl
  refine sq_asg (rd_eq (e := nD 1) rd_int rfl) ?_
  refine sq_forM (l := cycles (sentRound (roundOf rows b) n)) (enc := nD) (wi_list (rd_call (ra_one (rd_call (ra_cons (rd_var rfl) (ra_cons (rd_var rfl) (ra_one (rd_var rfl)))) (.mk rows hr' n hf hn b))) (.mk _ n hp hn))) (fun i δ1 => ∃ s4, 0 < lcmL ((cycles (sentRound (roundOf rows b) n)).take i) ∧ δ1 = [.dat (rowsD rows), .dat (nD n), .dat (.str (wayS b)), .dat (nD (lcmL ((cycles (sentRound (roundOf rows b) n)).take i))), s4]) ⟨_, Nat.one_pos, rfl⟩ ?_ ?_
  · rintro i x δ1 hi ⟨s4, h0, rfl⟩
    obtain ⟨c1, c2⟩ := hcl x (List.mem_of_getElem? hi)
    have e : lcmL ((cycles (sentRound (roundOf rows b) n)).take (i + 1)) = Nat.lcm (lcmL ((cycles (sentRound (roundOf rows b) n)).take i)) x := by
      rw [take_snoc hi]
      unfold lcmL
      rw [List.foldl_append]
      rfl
    refine ⟨_, _, gd_name, sd_asg (rd_call (ra_cons (rd_var rfl) (ra_one (rd_var rfl))) (.mk _ x h0 c1 (by omega))) ⟨.dat (nD x), ?_, ?_⟩⟩
    · rw [e]
      exact Nat.lcm_pos h0 c1
    · rw [e]
      rfl
  · rintro δ1 ⟨s4, h0, rfl⟩
    rw [List.take_length]
    exact sd_ret (rd_var rfl) rfl
abbrev s_where_back : Stmt := topS 67
theorem sc_where_back : FnScope ["rows", "rounds", "way", "fits", "seen", "period", "reach", "ends", "start", "marks", "loops", "row"] ["rows", "rounds", "way"] (defScope s_where_back) := ⟨rfl, rfl, rfl, by decide +kernel, rfl, by decide +kernel, by decide +kernel⟩
theorem ok_where_back {f : Addr} {fd : FuncData} (F : FunD K "where_back" "where_back" (defArgs s_where_back) (defBody s_where_back) (defScope s_where_back) [.str "round"] [] f fd) (T : Txt K w mg kd CS CR CP) (m_Sizes___contains__ : C8.Met P w K mg base 2 CS "__contains__" (spF K (P_Sizes___contains__ CS)) []) (c_check_steady : C8.Cal P w K mg base 6 "check_steady" (spF K (P_check_steady)) []) (c_common : C8.Cal P w K mg base 1 "common" (spF K (P_common)) []) (c_from_marks : C8.Cal P w K mg base 5 "from_marks" (spF K (P_from_marks CS)) []) (c_is_back : C8.Cal P w K mg base 2 "is_back" (spF K (P_is_back)) []) (c_is_number : C8.Cal P w K mg base 1 "is_number" (spF K (P_is_number)) []) (c_round_of : C8.Cal P w K mg base 3 "round_of" (spF K (P_round_of)) []) (c_sent_round : C8.Cal P w K mg base 4 "sent_round" (spF K (P_sent_round)) []) (c_shared_period : C8.Cal P w K mg base 2 "shared_period" (spF K (P_shared_period)) []) (c_takes : C8.Cal P w K mg base 1 "takes" (spF K (P_takes)) []) (c_where_fits : C8.Cal P w K mg base 8 "where_fits" (spF K (P_where_fits CS)) [])  : FnOk P w K mg base CX0 9 f fd ["rows", "rounds", "way"] (spF K (P_where_back CS)) := by
  have sc := sc_where_back
  refine fnDF F sc (fun ds d h => by cases h; rfl) fun cdv A outer s H E hr => ⟨_,
    (pss_cons (ps_expr (C8.pe_c c_check_steady hr (by decide) rfl (pa_cons (pv 0) pa_nil)))
      (pss_cons (ps_par (i := 3) (j := 4) rfl sc.nd rfl rfl (by decide) rfl rfl (pa_cons (C8.pe_c c_where_fits hr (by decide) rfl (pa_cons (pv 0) pa_nil)) (pa_cons (C8.pe_c c_round_of hr (by decide) rfl (pa_cons (pv 0) (pa_cons (pv 2) pa_nil))) pa_nil)) rfl)
      (pss_cons (ps_if (PW.pt (pw_or (pt_not (pt_val (C8.pe_c c_is_number hr (by decide) rfl (pa_cons (pv 1) pa_nil)))) (pw_or (pt_cmpR op_lt (pv 1) pe_int (by first | exact nomark _ | rfl)) (pw_or1 (pt_cmpR op_gt (pe_op op_mul (pv 1) (pe_callB call_len_seq (by rfl) T.n_len PySem.boot_len (pa_cons (pv 4) pa_nil))) (C8.pe_gc rfl T.g_MOST_MOVES) (by first | exact nomark _ | rfl)))))) (pss_one ps_never) pss_nil)
      (pss_cons (ps_set (i := 5) sc.nd rfl (Or.inl rfl) (C8.pe_c c_common hr (by decide) rfl (pa_cons (pe_fldK K (pv 3) rfl) (pa_cons (C8.pe_c c_shared_period hr (by decide) rfl (pa_cons (pv 0) pa_nil)) pa_nil))))
      (pss_cons (ps_set (i := 6) sc.nd rfl (Or.inl rfl) (pe_op op_mul (pe_op op_mul pe_int (pv 1)) (pe_callB call_len_seq (by rfl) T.n_len PySem.boot_len (pa_cons (pv 4) pa_nil))))
      (pss_cons (ps_set (i := 7) sc.nd rfl (Or.inl rfl) (pe_callB (cr_max rfl) (by rfl) T.n_max (by decide +kernel) (pa_cons (pe_lc (own := [("row", 11)]) (g := (gName 11)) (tt := tYes) rfl sc.nd (pi_tupK K (pv 0)) (blkOk_by (N := ["rows", "rounds", "way", "fits", "seen", "period", "reach", "ends", "start", "marks", "loops", "row"]) (sc := defScope s_where_back) (by decide +kernel)) (fun _ _ _ _ _ => (pg_name (i := 11) sc.nd rfl (Or.inl rfl))) (fun _ _ _ _ _ => pts_nil) (fun _ _ _ _ _ => (pe_op op_add (C8.pe_c c_takes hr (by decide) rfl (pa_cons (pe_ix (ix_tupK K) (pv 11) pe_int (fun _ _ => rfl)) pa_nil)) (C8.pe_c c_takes hr (by decide) rfl (pa_cons (pe_ix (ix_tupK K) (pv 11) pe_int (fun _ _ => rfl)) pa_nil))))) pa_nil)))
      (pss_cons (ps_set (i := 8) sc.nd rfl (Or.inl rfl) (pe_callB (call_max2 rfl) (by rfl) T.n_max (by decide +kernel) (pa_cons (pe_fldK K (pv 3) rfl) (pa_cons (pe_op op_add (pe_op op_mul pe_int (pe_op op_add (pv 6) (pv 7))) (pe_op op_mul pe_int (pv 5))) pa_nil))))
      (pss_cons (ps_set (i := 9) sc.nd rfl (Or.inl rfl) (pe_lst pa_nil))
      (pss_cons (ps_for PassesOwn.never rfl (pi_range1 rfl T.n_range (pa_cons (pe_op op_add (pv 8) (pv 5)) pa_nil)) (pg_name (i := 10) sc.nd rfl (Or.inl rfl))
      (pss_one (ps_expr (pe_bm PySem.F.plainAttrs_list PySem.F.slot_list_append PySem.F.type_list_append mt_append (pv 9) (pa_cons (pe_and (pe_cmpR (op_ownInM m_Sizes___contains__ hr (by decide)) (pv 10) (pv 3) (by first | exact nomark _ | rfl)) (pe_one (C8.pe_c c_is_back hr (by decide) rfl (pa_cons (C8.pe_c c_sent_round hr (by decide) rfl (pa_cons (pv 4) (pa_cons (pv 10) pa_nil))) (pa_cons (pv 1) pa_nil))))) pa_nil)))))
      (pss_one (ps_ret (C8.pe_c c_from_marks hr (by decide) rfl (pa_cons (pv 9) (pa_cons (pv 5) pa_nil)))))))))))))), fun ds d h => ?_⟩
  obtain ⟨rows, m, b, hw⟩ := h
  have hr' := hw.r
  have m1 := hw.m1
  have hl := hw.l
  have l0 := hr'.l0
  have l1 := hr'.l1
  have hB := whereFits_B hr'
  have hst := hB.st
  have hsl := wbStart_le hw
  have hp4 := d4_le (wbPeriod_d4 hr').1
  have hsh := shared_d4 hr'.ok
  have hs4 := d4_le hsh.1
  have hel := ends_le hr'.ok
  have hrl1 : 1 ≤ (roundOf rows b).length := by
    rw [roundOf_len]
    split
    · omega
    · split <;> omega
  have hrl2 : (roundOf rows b).length ≤ 24 := by
    have := Nat.mul_le_mul_right (roundOf rows b).length m1
    omega
  have hm24 : m ≤ 24 := by
    have := Nat.mul_le_mul_left m hrl1
    omega
  refine sq_drop (rd_call (ra_one (rd_var rfl)) (.mk rows hr')) ?_
  refine sq_par (ra_cons (rd_call (ra_one (rd_var rfl)) (.mk rows hr')) (ra_one (rd_call (ra_cons (rd_var rfl) (ra_one (rd_var rfl))) (.mk rows hr' b)))) ?_
  refine sq_no (rt_eq (rt_or (rt_not (rt_B (rd_call (ra_one (rd_var rfl)) (.mk _)))) fun _ => rt_or (rt_test (rd_op (rd_var rfl) rd_int od_b)) fun _ => rt_test (rd_op (rd_op (rd_var rfl) (rd_cb (ra_one (rd_var rfl)) cd_lenWL) (od_C ?_)) rd_int od_b)) ?_) ?_
  · unfold CMul
    omega
  · have e : ¬ ((m : Int) * ((roundOf rows b).length : Int)) > 24 := by
      rw [← Int.natCast_mul]
      omega
    rw [decide_eq_false (by omega : ¬ (m : Int) < 1), decide_eq_false e]
    rfl
  refine sq_asg (rd_call (ra_cons (rd_fld T.cS T.aS_period (rd_var rfl) rfl) (ra_one (rd_call (ra_one (rd_var rfl)) (.mk rows hr'.ok)))) (.mk _ (shared rows) hB.wf.p0 hsh.2 (by omega))) ?_
  refine sq_asg (rd_eq (e := nD (2 * m * (roundOf rows b).length)) (rd_op (rd_op rd_int (rd_var rfl) (od_C ?_)) (rd_cb (ra_one (rd_var rfl)) cd_lenWL) (od_C ?_)) rfl) ?_
  · unfold CMul
    omega
  · unfold CMul
    omega
  refine sq_asg (rd_cb (ra_one (rd_eq (rd_lcM (l := rows) (enc := rowD) (f := fun r => nD r.need) (wi_tup (rd_var rfl)) (by omega) fun r hrm => ⟨_, _, gd_name, by decide, rd_eq (rd_op (rd_call (ra_one (rd_op (rd_var rfl) rd_int (od_ixT rfl))) (.mk r.b (Nat.le_trans (hr'.ok r hrm).lb (by decide)))) (rd_call (ra_one (rd_op (rd_var rfl) rd_int (od_ixT rfl))) (.mk r.a (Nat.le_trans (hr'.ok r hrm).la (by decide)))) od_i) rfl⟩) ?_)) (cd_max (ns := rows.map fun r => (r.need : Int)) (m := (ends rows : Int)) ?_ ?_)) ?_
  · rw [List.map_map]
    rfl
  · have hne : rows ≠ [] := fun e => by rw [e] at l0; simp at l0
    have := ends_mem hne
    obtain ⟨r, h1, h2⟩ := List.mem_map.mp this
    exact List.mem_map.mpr ⟨r, h1, by rw [h2]⟩
  · intro y hy
    obtain ⟨r, h1, h2⟩ := List.mem_map.mp hy
    have := ends_ge r h1
    omega
  refine sq_asg (rd_eq (e := nD (wbStart rows m b)) (rd_cb (ra_cons (rd_fld T.cS T.aS_start (rd_var rfl) rfl) (ra_one (rd_op (rd_op rd_int (rd_op (rd_var rfl) (rd_var rfl) od_i) (od_C ?_)) (rd_op rd_int (rd_var rfl) (od_C ?_)) od_i))) cd_max2) ?_) ?_
  · unfold CMul
    omega
  · unfold CMul
    omega
  · show D.int (max ((whereFits rows).start : Int) (2 * (((2 * m * (roundOf rows b).length : Nat) : Int) + (ends rows : Int)) + 2 * ((wbPeriod rows : Nat) : Int))) = D.int ((wbStart rows m b : Nat) : Int)
    congr 1
    unfold wbStart
    generalize 2 * m * (roundOf rows b).length = z
    omega
  refine sq_newL fun p => ?_
  refine sq_forM (l := List.range (wbStart rows m b + wbPeriod rows)) (enc := nD) (wi_rngN (ra_one (rd_eq (e := nD (wbStart rows m b + wbPeriod rows)) (rd_op (rd_var rfl) (rd_var rfl) od_i) rfl)) (by omega)) (fun i δ1 => ∃ s10, δ1 = [.dat (rowsD rows), .dat (nD m), .dat (.str (wayS b)), .dat (szD CS (whereFits rows)), .dat (rowsL (roundOf rows b)), .dat (nD (wbPeriod rows)), .dat (nD (2 * m * (roundOf rows b).length)), .dat (nD (ends rows)), .dat (nD (wbStart rows m b)),
    .ownL p (((List.range (wbStart rows m b + wbPeriod rows)).take i).map fun n => .bl ((whereFits rows).mem n && isBack (sentRound (roundOf rows b) n) m)), s10, .no]) ⟨_, rfl⟩ ?_ ?_
  · rintro i x δ1 hi ⟨s10, rfl⟩
    have hx : x < wbStart rows m b + wbPeriod rows := List.mem_range.mp (List.mem_of_getElem? hi)
    refine ⟨_, _, gd_name, sd_app (d := .bl ((whereFits rows).mem x && isBack (sentRound (roundOf rows b) x) m)) rfl (rd_and (rd_op (rd_var rfl) (rd_var rfl) (od_ownIn (.mk _ x hB.wf.p0))) fun hmem => ?_) ?_ ⟨.dat (nD x), ?_⟩⟩
    · rw [mem_whereFits hr', decide_eq_true_eq] at hmem
      have hfa := fitAll_round (b := b) hr' hmem
      exact rd_call (ra_cons (rd_call (ra_cons (rd_var rfl) (ra_one (rd_var rfl))) (.mk _ (roundOf_ok hr') x hfa (by omega))) (ra_one (rd_var rfl))) (.mk _ x (sentRound_perm hfa) (by omega) m (by omega))
    · rw [List.length_map, List.length_take, List.length_range]
      omega
    · rw [takeN hi, List.map_append]
      rfl
  · rintro δ1 ⟨s10, rfl⟩
    rw [List.take_length]
    refine sd_frzL (i := 9) rfl (sd_ret (rd_call (ra_cons (rd_eq (e := bsL (wbMarks rows m b)) (rd_var rfl) ?_) (ra_one (rd_var rfl))) (.mk _ (wbPeriod rows) (wbPeriod_d4 hr').2 (by omega) (by rw [wbMarks_len]; omega) (by rw [wbMarks_len]; omega))) rfl)
    unfold bsL wbMarks
    rw [List.map_map]
    rfl
end
end K17
/-! readings that draw: one owned list is changed on the way -/
namespace K17
open PySem L2 PySem.Spec PyProof.Rows HT
def RM (K : PySem.W.Frag) (te : TE) (δ δ' : DS) (d : D) : Prop :=
  ∀ (A : Hp × Hp) (σ : L2.St) (Hb H : Hp), At K A Hb H σ δ → ∀ Q : VK, (∀ v Hb' H', Same Hb Hb' → At K A Hb' H' σ δ' → Rp K Hb' v d → Q v H') → te σ H Q
def RAM (K : PySem.W.Frag) (ta : TA) (δ δ' : DS) (ds : List D) : Prop :=
  ∀ (A : Hp × Hp) (σ : L2.St) (Hb H : Hp), At K A Hb H σ δ → ∀ Q : List V → Hp → Prop, (∀ vs Hb' H', Same Hb Hb' → At K A Hb' H' σ δ' → RpA K Hb' vs ds → Q vs H') → ta σ H Q
def ROM (K : PySem.W.Frag) (to : TO) (δ δ' : DS) (o : Option Int) : Prop :=
  ∀ (A : Hp × Hp) (σ : L2.St) (Hb H : Hp), At K A Hb H σ δ → ∀ Q : Option Int → Hp → Prop, (∀ Hb' H', Same Hb Hb' → At K A Hb' H' σ δ' → Q o H') → to σ H Q
def WM (K : PySem.W.Frag) (wi : TI) (δ δ' : DS) (ds : List D) : Prop :=
  ∀ (A : Hp × Hp) (σ : L2.St) (Hb H : Hp), At K A Hb H σ δ → ∀ R : It → Hp → Prop, (∀ J Hb' H', Same Hb Hb' → At K A Hb' H' σ δ' → Walks K J Hb' ds → R J H') → wi σ H R
section
variable {K : PySem.W.Frag} {δ δ1 δ2 δ3 : DS} {ta tb te : TE} {a b d : D} {r : R2} {ds : List D} {l u : Option Int} {tl th ts : TO}
theorem rm_rd (h : RD K te δ d) : RM K te δ δ d := fun A σ Hb H q Q k => h A σ Hb H q Q fun v Hb1 H1 g r => k v Hb1 H1 g.b (q.grow g) r
theorem ram_ra {t : TA} (h : RA K t δ ds) : RAM K t δ δ ds := fun A σ Hb H q Q k => h A σ Hb H q Q fun v Hb1 H1 g r => k v Hb1 H1 g.b (q.grow g) r
theorem rm_op (ha : RM K ta δ δ1 a) (hb : RM K tb δ1 δ2 b) (ho : OD K r a b d) : RM K (tOp r ta tb) δ δ2 d := fun A σ Hb H q Q k =>
  ha A σ Hb H q _ fun x Hb1 H1 s1 q1 r1 => hb A σ Hb1 H1 q1 _ fun y Hb2 H2 s2 q2 r2 => ho x y Hb2 H2 q2.gr.s (r1.ext s2) r2 Q fun v Hb3 H3 g3 r3 => k v Hb3 H3 ((s1.trans s2).trans g3.b) (q2.grow g3) r3
theorem rm_eq {e : D} (h : RM K te δ δ1 d) (q : d = e) : RM K te δ δ1 e := q ▸ h
theorem ram_cons {tr : TA} (ha : RM K ta δ δ1 d) (hr : RAM K tr δ1 δ2 ds) : RAM K (tCons ta tr) δ δ2 (d :: ds) := fun A σ Hb H q Q k =>
  ha A σ Hb H q _ fun x Hb1 H1 s1 q1 r1 => hr A σ Hb1 H1 q1 _ fun xs Hb2 H2 s2 q2 r2 => k _ Hb2 H2 (s1.trans s2) q2 (.cons (r1.ext s2) r2)
theorem ram_nil : RAM K tNil δ δ [] := ram_ra ra_nil
theorem ram_one (ha : RM K ta δ δ1 d) : RAM K (tCons ta tNil) δ δ1 [d] := ram_cons ha ram_nil
theorem rm_cb {f : List V → Hp → VK → Prop} {t : TA} (ha : RAM K t δ δ1 ds) (hc : CD K f ds d) : RM K (tCB f t) δ δ1 d := fun A σ Hb H q Q k =>
  ha A σ Hb H q _ fun x Hb1 H1 s1 q1 r1 => hc x Hb1 H1 q1.gr.s r1 Q fun v Hb3 H3 g3 r3 => k v Hb3 H3 (s1.trans g3.b) (q1.grow g3) r3
theorem rm_tup {t : TA} (ha : RAM K t δ δ1 ds) (hz : ds.length ≤ 100000) : RM K (tTup t) δ δ1 (.tup ds) := fun A σ Hb H q Q k =>
  ha A σ Hb H q _ fun x Hb1 H1 s1 q1 r1 => ⟨by rw [r1.len]; exact sz5 hz, fun p hp => k _ (upd Hb1 p (.tup x)) _ (s1.trans (Gr.new q1.gr.s hp).b) (q1.grow (.new q1.gr.s hp)) (.tup upd_same (r1.ext (Gr.new q1.gr.s hp).b))⟩
theorem rom_ro (h : RO K tl δ l) : ROM K tl δ δ l := fun A σ Hb H q Q k => h A σ Hb H q Q fun Hb1 H1 g => k Hb1 H1 g.b (q.grow g)
theorem rom_some {i : Int} (h : RM K te δ δ1 (.int i)) : ROM K (tPart te) δ δ1 (some i) := fun A σ Hb H q Q k =>
  h A σ Hb H q _ fun v Hb1 H1 s1 q1 r1 => by
    cases r1
    exact ⟨i, rfl, k Hb1 H1 s1 q1⟩
theorem rm_slL (h : RM K te δ δ1 (.lst ds)) (hl : RO K tl δ1 l) (hu : RO K th δ1 u) : RM K (tSl (rSlL K) te tl th) δ δ1 (.lst (cutD ds l u)) := fun A σ Hb H q Q k =>
  h A σ Hb H q _ fun v Hb1 H1 s1 q1 r1 => hl A σ Hb1 H1 q1 _ fun Hb2 H2 g2 => hu A σ Hb2 H2 (q1.grow g2) _ fun Hb3 H3 g3 => by
    have r2 := (r1.ext g2.b).ext g3.b
    have q3 := (q1.grow g2).grow g3
    cases r2 with
    | @lst a xs _ hx r => exact ⟨a, xs, rfl, SqL.of (g3.s _ _ hx), fun p hp => k _ (upd Hb3 p (.lst (cutV xs l u))) _ (((s1.trans g2.b).trans g3.b).trans (Gr.new g3.s hp).b) (q3.grow (.new g3.s hp)) (.lst upd_same ((r.cut l u).ext (Gr.new g3.s hp).b))⟩
theorem rm_stepL {c : Int} (h : RM K te δ δ1 (.lst ds)) (hl : ROM K tl δ1 δ2 l) (hu : RO K th δ2 u) (hs : ROM K ts δ2 δ3 (some c)) (hc : 0 < c) : RM K (tStepL K te tl th ts) δ δ3 (.lst (pickI ds l u (some c))) := fun A σ Hb H q Q k =>
  h A σ Hb H q _ fun v Hb1 H1 s1 q1 r1 => hl A σ Hb1 H1 q1 _ fun Hb2 H2 s2 q2 => hu A σ Hb2 H2 q2 _ fun Hb3 H3 g3 => hs A σ Hb3 H3 (q2.grow g3) _ fun Hb4 H4 s4 q4 => by
    have r2 := ((r1.ext s2).ext g3.b).ext s4
    cases r2 with
    | @lst a xs _ hx r =>
      refine ⟨a, xs, c, rfl, rfl, hc, SqL.of (q4.gr.s _ _ hx), fun p hp => k _ (upd Hb4 p (.lst (pickI xs l u (some c)))) _ ((((s1.trans s2).trans g3.b).trans s4).trans (Gr.new q4.gr.s hp).b) (q4.grow (.new q4.gr.s hp)) (.lst upd_same (RpA.ext (Gr.new q4.gr.s hp).b ?_))⟩
      unfold pickI
      rw [r.len]
      exact RpA.pick r _
/-! what is walked -/
theorem wm_list {tl : TE} (h : RM K tl δ δ1 (.lst ds)) : WM K (iList K tl) δ δ1 ds := fun A σ Hb H q R k =>
  h A σ Hb H q _ fun v Hb1 H1 s1 q1 r1 => by
    cases r1 with
    | @lst a xs _ hx r =>
      refine ⟨a, rfl, ⟨xs, SqL.of (q1.gr.s _ _ hx)⟩, k _ Hb1 H1 s1 q1 fun Hb2 H2 e2 s2 => ⟨⟨xs, SqL.of (s2 _ _ (e2 _ _ hx)), by rw [r.len]; exact Nat.le_refl _⟩, fun i d hd => ?_⟩⟩
      obtain ⟨v, hv, rv⟩ := r.get hd
      refine ⟨⟨xs, v, SqL.of (s2 _ _ (e2 _ _ hx)), hv⟩, fun x H3 hy => ?_⟩
      obtain ⟨rfl, hy⟩ := hy
      have e := hy xs (SqL.of (s2 _ _ (e2 _ _ hx)))
      rw [hv] at e
      cases e
      exact ⟨Hb2, .refl s2, rv.ext e2⟩
theorem wm_tup {tl : TE} (h : RM K tl δ δ1 (.tup ds)) : WM K (iTup K tl) δ δ1 ds := fun A σ Hb H q R k =>
  h A σ Hb H q _ fun v Hb1 H1 s1 q1 r1 => by
    cases r1 with
    | @tup a xs _ hx r =>
      refine ⟨a, rfl, ⟨xs, SqT.of (q1.gr.s _ _ hx)⟩, k _ Hb1 H1 s1 q1 fun Hb2 H2 e2 s2 => ⟨⟨xs, SqT.of (s2 _ _ (e2 _ _ hx)), by rw [r.len]; exact Nat.le_refl _⟩, fun i d hd => ?_⟩⟩
      obtain ⟨v, hv, rv⟩ := r.get hd
      refine ⟨⟨xs, v, SqT.of (s2 _ _ (e2 _ _ hx)), hv⟩, fun x H3 hy => ?_⟩
      obtain ⟨rfl, hy⟩ := hy
      have e := hy xs (SqT.of (s2 _ _ (e2 _ _ hx)))
      rw [hv] at e
      cases e
      exact ⟨Hb2, .refl s2, rv.ext e2⟩
theorem wm_rng1 {t : TA} {n : Nat} (h : RAM K t δ δ1 [.int (n : Int)]) (h1 : n ≤ 100000) : WM K (iRng1 t) δ δ1 ((List.range n).map nD) := fun A σ Hb H q R k =>
  h A σ Hb H q _ fun vs Hb1 H1 s1 q1 r1 => by
    obtain ⟨v, rfl, r⟩ := r1.one_inv
    cases r
    refine ⟨(n : Int), rfl, by omega, by omega, k _ Hb1 H1 s1 q1 ?_⟩
    rw [← rngN]
    have := walks_rng (K := K) (Hb := Hb1) (lo := 0) (n := n)
    rwa [show ((n : Int)).toNat = n from Int.toNat_natCast n]
/-! a comprehension over what draws -/
theorem rm_lcM {α : Type} {xs : List α} {enc f : α → D} {wi : TI} {g : TG} {vs : List Nat} (hw : WM K wi δ δ1 (xs.map enc)) (hz : xs.length ≤ 99999)
    (hs : ∀ x ∈ xs, ∃ is δ2, GD K g is (enc x) (DS.wipe δ1 vs) δ2 ∧ (∀ i ∈ is, i ∈ vs) ∧ RD K te δ2 (f x)) : RM K (tLc wi g tYes te vs) δ δ1 (.lst (xs.map f)) := fun A σ Hb H q0 Q k =>
  hw A σ Hb H q0 _ fun J Hb1 H1 s1 q wk => fun Dl hD => by
    have hD0 : Hb1 Dl = none := q.gr.s.free hD
    have hle : (xs.map enc).length = xs.length := List.length_map ..
    refine ⟨fun i m H' => m = xs.length - i ∧ i ≤ xs.length ∧ ∃ Hb' acc, Gr Hb1 H1 Hb' H' ∧ Hb' Dl = none ∧ H' Dl = some (.lst acc) ∧ RpA K Hb' acc ((xs.take i).map f),
      ⟨xs.length, by simp, Nat.zero_le _, Hb1, [], Gr.newO q.gr.s hD, hD0, upd_same, .nil⟩, ?_⟩
    rintro i m H' ⟨rfl, hi, Hb', acc, g2, hD1, hD2, ra⟩
    obtain ⟨stop, step⟩ := wk Hb' H' g2.b g2.s
    rw [hle] at stop
    by_cases hlt : i < xs.length
    · obtain ⟨go, yld⟩ := step i (enc xs[i]) (by rw [List.getElem?_map, List.getElem?_eq_getElem hlt]; rfl)
      refine .inr ⟨go, fun H3 => i + 1 ≤ xs.length ∧ ∃ Hb' acc, Gr Hb1 H1 Hb' H3 ∧ Hb' Dl = none ∧ H3 Dl = some (.lst acc) ∧ RpA K Hb' acc ((xs.take (i + 1)).map f), fun H3 z => ⟨xs.length - (i + 1), by omega, rfl, z⟩, fun x H3 hy => ?_⟩
      obtain ⟨Hb3, g3, rx⟩ := yld x H3 hy
      have hD3 : Hb3 Dl = none := g3.o _ hD1 (by rw [hD2]; simp)
      have hD4 : H3 Dl = some (.lst acc) := g3.h _ _ hD2
      have g13 := g2.trans g3
      obtain ⟨is, δ2, G, his, E⟩ := hs xs[i] (List.getElem_mem hlt)
      refine G A _ Hb3 H3 x ((q.grow g13).wipe vs) rx _ fun σ2 h2 wp => ⟨?_, ?_⟩
      · rw [wp vs his, wipe_idem]
      · have tk : xs.take (i + 1) = xs.take i ++ [xs[i]] := take_snoc (List.getElem?_eq_getElem hlt)
        have mutt : ∀ {Hb5 H5 : Hp} {o : HO}, Gr Hb1 H1 Hb5 H5 → Hb5 Dl = none → Gr Hb1 H1 Hb5 (upd H5 Dl o) := fun {Hb5 H5 o} gg hn =>
          ⟨gg.b, fun b u e => by rw [upd_ne (ne_of_none e hD)]; exact gg.h b u e, fun b u e => by rw [upd_ne (ne_of_none e hn)]; exact gg.s b u e, gg.o⟩
        show te σ2 H3 _
        refine E A σ2 Hb3 H3 h2 _ fun y Hb5 H5 g5 ry => ?_
        have hD7 : Hb5 Dl = none := g5.o _ hD3 (by rw [hD4]; simp)
        have hl : acc.length ≤ i := by
          rw [ra.len, List.length_map, List.length_take]
          exact Nat.min_le_left _ _
        refine ⟨acc, g5.h _ _ hD4, szl5 (by omega), hlt, Hb5, acc ++ [y], mutt (g13.trans g5) hD7, hD7, upd_same, ?_⟩
        rw [tk, List.map_append]
        exact ((ra.ext g3.b).ext g5.b).app (.one ry)
    · have e : i = xs.length := by omega
      subst e
      have gf : Gr Hb1 H1 (upd Hb' Dl (.lst acc)) H' := by
        refine ⟨g2.b.trans (same_new hD1), g2.h, fun b u e => ?_, fun a h1 h2 => ?_⟩
        · by_cases z : b = Dl
          · subst z
            rw [upd_same] at e
            cases e
            exact hD2
          · rw [upd_ne z] at e
            exact g2.s b u e
        · have z : a ≠ Dl := fun z => by
            subst z
            exact h2 hD
          rw [upd_ne z]
          exact g2.o a h1 h2
      rw [List.take_length] at ra
      exact .inl ⟨stop, k _ (upd Hb' Dl (.lst acc)) H' (s1.trans gf.b) (q.grow gf) (.lst upd_same (ra.ext (same_new hD1)))⟩
/-! statements -/
variable {N N' : DS → Prop} {R : DS → D → Prop} {t tz : TS}
theorem sqm_asg {i : Nat} (h : RM K te δ δ1 d) (k : SD K tz (δ1.set i (.dat d)) N R) : SD K (tSeq (tAsg te (gName i)) tz) δ N R := fun A σ Hb H q Dn kn kr =>
  h A σ Hb H q _ fun v Hb1 H1 s1 q1 r1 => k A _ Hb1 H1 (q1.set r1) Dn (fun δ' σ' Hb' H' n e q => kn δ' σ' Hb' H' n (s1.trans e) q) fun δ' d v σ' Hb' H' r e q p => kr δ' d v σ' Hb' H' r (s1.trans e) q p
theorem sqm_asgG {g : TG} {is : List Nat} (h : RM K te δ δ1 d) (hg : GD K g is d δ1 δ2) (k : SD K tz δ2 N R) : SD K (tSeq (tAsg te g) tz) δ N R := fun A σ Hb H q Dn kn kr =>
  h A σ Hb H q _ fun v Hb1 H1 s1 q1 r1 => hg A σ Hb1 H1 v q1 r1 _ fun σ' q' _ => k A _ Hb1 H1 q' Dn (fun δ' σ' Hb' H' n e q => kn δ' σ' Hb' H' n (s1.trans e) q) fun δ' d v σ' Hb' H' r e q p => kr δ' d v σ' Hb' H' r (s1.trans e) q p
theorem sqm_par {i j : Nat} {t : TA} (h : RAM K t δ δ1 [a, b]) (k : SD K tz ((δ1.set i (.dat a)).set j (.dat b)) N R) : SD K (tSeq (tPar i j t) tz) δ N R := fun A σ Hb H q Dn kn kr =>
  h A σ Hb H q _ fun vs Hb1 H1 s1 q1 r1 => by
    obtain ⟨v, w, rfl, rv, rw'⟩ := r1.two_inv
    exact ⟨v, w, rfl, k A _ Hb1 H1 ((q1.set rv).set rw') Dn (fun δ' σ' Hb' H' n e q => kn δ' σ' Hb' H' n (s1.trans e) q) fun δ' d v σ' Hb' H' r e q p => kr δ' d v σ' Hb' H' r (s1.trans e) q p⟩
theorem sdm_ret (h : RM K te δ δ1 d) (r : R δ1 d) : SD K (tRet te) δ N R := fun A σ Hb H q Dn kn kr =>
  h A σ Hb H q _ fun v Hb1 H1 s1 q1 r1 => kr δ1 d v σ Hb1 H1 r s1 q1 r1
theorem sdm_app {i : Nat} {p : Addr} (hi : δ[i]? = some (.ownL p ds)) (hi1 : δ1[i]? = some (.ownL p ds)) (h : RM K te δ δ1 d) (hz : ds.length < 100000) (n : N (δ1.set i (.ownL p (ds ++ [d])))) : SD K (tDrop (tBM K "list" rAppend (tVar i) (tCons te tNil))) δ N R := fun A σ Hb H q Dn kn kr => by
  obtain ⟨o, h1, h2, h3, h4, xs, h5, h6⟩ := q.sl i _ hi
  subst h2
  refine ⟨_, h1, .inl ⟨rfl, _, SqL.of h5⟩, ?_⟩
  refine h A σ Hb H q _ fun v Hb1 H1 s1 q1 r1 => ?_
  obtain ⟨o', k1, k2, k3, k4, ys, k5, k6⟩ := q1.sl i _ hi1
  refine ⟨p, ys, v, rfl, rfl, k5, by rw [k6.len]; exact szl5 hz, ?_⟩
  refine kn _ σ Hb1 _ n s1 (q1.mut hi1 rfl rfl h1 ?_)
  exact ⟨rfl, k3, h4, _, upd_same, k6.app (.one r1)⟩
theorem sqm_forM {α : Type} {xs : List α} {enc : α → D} {wi : TI} {g : TG} {tb : TS} (hw : WM K wi δ δ1 (xs.map enc)) (I : Nat → DS → Prop) (h0 : I 0 δ1)
    (hs : ∀ (i : Nat) (x : α) (δ3 : DS), xs[i]? = some x → I i δ3 → ∃ is δ2, GD K g is (enc x) δ3 δ2 ∧ SD K tb δ2 (I (i + 1)) R) (hd : ∀ δ3, I xs.length δ3 → SD K tz δ3 N R) : SD K (tSeq (tFor wi g tb) tz) δ N R :=
  sd_seq (N' := I xs.length) (fun A σ Hb H q Dn kn kr => hw A σ Hb H q _ fun J Hb1 H1 s1 q1 wk => by
    have hle : (xs.map enc).length = xs.length := List.length_map ..
    refine ⟨fun i m σ' H' => m = xs.length - i ∧ i ≤ xs.length ∧ ∃ δ3 Hb', Same Hb1 Hb' ∧ At K A Hb' H' σ' δ3 ∧ I i δ3, ⟨xs.length, by simp, Nat.zero_le _, δ1, Hb1, Same.refl _, q1, h0⟩, ?_⟩
    rintro i m σ' H' ⟨rfl, hi, δ3, Hb', e1, q1, i1⟩
    obtain ⟨stop, step⟩ := wk Hb' H' e1 q1.gr.s
    rw [hle] at stop
    by_cases hlt : i < xs.length
    · obtain ⟨go, yld⟩ := step i (enc xs[i]) (by rw [List.getElem?_map, List.getElem?_eq_getElem hlt]; rfl)
      refine .inr ⟨go, fun σ2 H2 => i + 1 ≤ xs.length ∧ ∃ δ3 Hb', Same Hb1 Hb' ∧ At K A Hb' H2 σ2 δ3 ∧ I (i + 1) δ3, fun σ2 H2 z => ⟨xs.length - (i + 1), by omega, rfl, z⟩, fun x H2 hy => ?_⟩
      obtain ⟨Hb2, g2, rx⟩ := yld x H2 hy
      obtain ⟨is, δ2, G, B⟩ := hs i xs[i] δ3 (List.getElem?_eq_getElem hlt) i1
      refine G A σ' Hb2 H2 x (q1.grow g2) rx _ fun σ2 q2 _ => ?_
      refine B A σ2 Hb2 H2 q2 _ (fun δ4 σ3 Hb3 H3 i3 e3 q3 => ⟨hlt, δ4, Hb3, (e1.trans g2.b).trans e3, q3, i3⟩) fun δ4 d v σ3 Hb3 H3 r3 e3 q3 p3 => ?_
      exact kr δ4 d v σ3 Hb3 H3 r3 (((s1.trans e1).trans g2.b).trans e3) q3 p3
    · have e : i = xs.length := by omega
      subst e
      exact .inl ⟨stop, kn δ3 σ' Hb' H' i1 (s1.trans e1) q1⟩) fun δ3 z => hd δ3 z
/-! an owned list with contents; items of it -/
theorem At.newLs {A : Hp × Hp} {Hb H : Hp} {σ : L2.St} {i : Nat} {p : Addr} {xs : List V} (h : At K A Hb H σ δ) (hp : H p = none) (r : RpA K Hb xs ds) (hi : i < δ.length) : At K A Hb (upd H p (.lst xs)) (σ.set i (some (.ref p))) (δ.set i (.ownL p ds)) := by
  have q := h.newL (i := i) hp
  have e1 : (δ.set i (.ownL p []))[i]? = some (.ownL p []) := List.getElem?_set_self hi
  obtain ⟨o, h1, h2, h3, h4, ys, h5, h6⟩ := q.sl i _ e1
  subst h2
  have q2 := q.mut (o := .lst xs) (s' := .ownL p ds) e1 rfl rfl h1 ⟨rfl, h3, h4, xs, upd_same, r⟩
  have e2 : upd (upd H p (.lst [])) p (.lst xs) = upd H p (.lst xs) := by
    funext b
    by_cases z : b = p
    · subst z; rw [upd_same, upd_same]
    · rw [upd_ne z, upd_ne z, upd_ne z]
  rw [e2, List.set_set] at q2
  exact q2
theorem sq_newLs {i : Nat} {t : TA} (h : RA K t δ ds) (hz : ds.length ≤ 100000) (hi : i < δ.length) (k : ∀ p, SD K tz (δ.set i (.ownL p ds)) N R) : SD K (tSeq (tAsg (tLst t) (gName i)) tz) δ N R := fun A σ Hb H q Dn kn kr =>
  h A σ Hb H q _ fun xs Hb1 H1 g1 r1 => ⟨by rw [r1.len]; exact sz5 hz, fun p hp => k p A _ Hb1 _ ((q.grow g1).newLs hp r1 hi) Dn (fun δ' σ' Hb' H' n e q => kn δ' σ' Hb' H' n (g1.b.trans e) q) fun δ' d v σ' Hb' H' r e q p => kr δ' d v σ' Hb' H' r (g1.b.trans e) q p⟩
theorem rd_ixO {i : Nat} {p : Addr} {j : Int} (hi : δ[i]? = some (.ownL p ds)) (h : RD K te δ (.int j)) (e : L2.atI ds j = some d) : RD K (tOp (rIxL K) (tVar i) te) δ d := fun A σ Hb H q Q k => by
  obtain ⟨o, h1, h2, h3, h4, xs, h5, h6⟩ := q.sl i _ hi
  subst h2
  refine ⟨_, h1, h A σ Hb H q _ fun y Hb1 H1 g1 r1 => ?_⟩
  cases r1
  obtain ⟨v, hv, rv⟩ := (h6.ext g1.b).atI e
  exact ⟨p, xs, j, v, rfl, rfl, SqL.of (g1.h _ _ h5), hv, k v Hb1 H1 g1 rv⟩
end

/-! ### defs that draw -/
def spDr (K : PySem.W.Frag) (Pre : List Int → Nat → List D → D → Nat → Prop) : Sp := fun vs H Q _ => ∃ (Hb : Hp) (a : Addr) (us : List V) (xs : List V) (ns : List Int) (k : Nat) (ds : List D) (d : D) (k' : Nat),
  vs = .ref a :: us ∧ Same Hb H ∧ Hb a = none ∧ H a = some (.lst xs) ∧ RpA K Hb xs [.scr ns, nD k] ∧ RpA K Hb us ds ∧ Pre ns k ds d k' ∧
  ∀ v Hb' H' xs', Gr Hb (hideA a H) Hb' H' → Hb' a = none → H' a = some (.lst xs') → RpA K Hb' xs' [.scr ns, nD k'] → Rp K Hb' v d → Q v H'
def dstartR (a : Addr) (ns : List Int) (k : Nat) (N : List Str) (ds : List D) : DS := .ownL a [.scr ns, nD k] :: (ds.map Sl.dat ++ List.replicate (N.length - (ds.length + 1)) Sl.no)
section
variable {P : Program} {w : World} {K : PySem.W.Frag} {mg : Str → Option Value} {base : Heap}
theorem fnDr {x qual : Str} {st : Stmt} {f : Addr} {fd : FuncData} {N ps : List Str} {k : Nat} {Pre : List Int → Nat → List D → D → Nat → Prop} (F : Fun K x qual st f fd) (S : FnScope N ps (defScope st)) (hl : ∀ ns k ds d k', Pre ns k ds d k' → ds.length + 1 = ps.length)
    (body : ∀ (cdv : Value) (A : Around) (outer : List Env) (s : Shared) (H : Hp) (E : XK), Room k (A.deeper (envOfC qual (defScope st) s.heap.objs.size f cdv)) →
      ∃ t, PSs (cxOf CX0 P w K mg base N qual (defScope st) f cdv A outer s H E).nox (defBody st) t ∧ ∀ (a : Addr) ns k ds d k', Pre ns k ds d k' → SD K t (dstartR a ns k N ds) (fun _ => False) (fun δ' e => e = d ∧ δ'[0]? = some (.ownL a [.scr ns, nD k']))) : FnOk P w K mg base CX0 (k + 1) f fd ps (spDr K Pre) := by
  refine F.ok S (fun vs H Q E h => ?_) (fun cdv A outer s H vs Q E hr h => ?_)
  · obtain ⟨Hb, a, us, xs, ns, k, ds, d, k', rfl, _, _, _, _, r, p, _⟩ := h
    rw [List.length_cons, r.len]
    exact hl ns k ds d k' p
  · obtain ⟨t, ht, hs⟩ := body cdv A outer s H E hr
    obtain ⟨Hb, x, us, ys, ns, k, ds, d, k', rfl, e, hbx, hx, ry, r, p, q⟩ := h
    have a0 : At K (Hb, hideA x H) Hb H (start N (.ref x :: us)) (dstartR x ns k N ds) := by
      have hlen := r.len
      refine ⟨⟨Same.refl _, fun b u z => ?_, e, fun _ z _ => z⟩, ?_, fun i s' z => ?_, fun i j s1 s2 a e1 e2 q1 q2 => ?_⟩
      · have z' : hideA x H b = some u := z
        by_cases y : b = x
        · rw [y, hideA_same] at z'
          cases z'
        · rwa [hideA_ne y] at z'
      · unfold L2.start dstartR
        simp only [List.length_append, List.length_map, List.length_replicate, List.length_cons]
        omega
      · cases i with
        | zero =>
          have z' : some (Sl.ownL x [.scr ns, nD k]) = some s' := z
          cases z'
          exact ⟨some (.ref x), rfl, rfl, hbx, hideA_same, ys, hx, ry⟩
        | succ i =>
          have z' : (ds.map Sl.dat ++ List.replicate (N.length - (ds.length + 1)) Sl.no)[i]? = some s' := z
          show ∃ o, (us.map some ++ List.replicate (N.length - (us.length + 1)) none)[i]? = some o ∧ _
          by_cases h : i < ds.length
          · rw [List.getElem?_append_left (by rw [List.length_map]; exact h), List.getElem?_map, List.getElem?_eq_getElem h] at z'
            cases z'
            obtain ⟨v, hv, rv⟩ := r.get (List.getElem?_eq_getElem h)
            refine ⟨some v, ?_, v, rfl, rv⟩
            rw [List.getElem?_append_left (by rw [List.length_map, hlen]; exact h), List.getElem?_map, hv]
            rfl
          · rw [List.getElem?_append_right (by rw [List.length_map]; omega)] at z'
            obtain ⟨h3, h4⟩ := List.getElem?_eq_some_iff.mp z'
            rw [List.getElem_replicate] at h4
            subst h4
            rw [List.length_replicate, List.length_map] at h3
            refine ⟨none, ?_, trivial⟩
            rw [List.getElem?_append_right (by rw [List.length_map]; omega), List.getElem?_replicate, if_pos (by rw [List.length_map]; omega)]
      · have only : ∀ {i : Nat} {s : Sl}, (dstartR x ns k N ds)[i]? = some s → s.own = some a → i = 0 := fun {i s} z y => by
          cases i with
          | zero => rfl
          | succ i =>
            have z' : (ds.map Sl.dat ++ List.replicate (N.length - (ds.length + 1)) Sl.no)[i]? = some s := z
            rcases List.mem_append.mp (List.mem_of_getElem? z') with m | m
            · obtain ⟨d, _, rfl⟩ := List.mem_map.mp m
              cases y
            · rw [List.eq_of_mem_replicate m] at y
              cases y
        rw [only e1 q1, only e2 q2]
    refine ⟨t, ht, hs x ns k ds d k' p (Hb, hideA x H) _ Hb H a0 _ (fun _ _ _ _ z _ _ => z.elim) fun δ' d' v σ' Hb' H' rr e' q' rv => ?_⟩
    obtain ⟨rfl, n⟩ := rr
    obtain ⟨o, h1, h2, h3, h4, xs, h5, h6⟩ := q'.sl 0 _ n
    exact q v Hb' H' xs q'.gr h3 h5 h6 rv
end
/-- the draw list at i, changed by a callee -/
theorem At.drawn {K : PySem.W.Frag} {A : Hp × Hp} {Hb H Hb' H' : Hp} {σ : L2.St} {δ : DS} {i : Nat} {a : Addr} {ds ds' : List D} {xs' : List V} (h : At K A Hb H σ δ) (hi : δ[i]? = some (.ownL a ds)) (g : Gr Hb (hideA a H) Hb' H') (hb : Hb' a = none) (ha : H' a = some (.lst xs')) (r : RpA K Hb' xs' ds') : At K A Hb' H' σ (δ.set i (.ownL a ds')) := by
  obtain ⟨o, h1, h2, h3, h4, xs, h5, h6⟩ := h.sl i _ hi
  subst h2
  have hil : i < δ.length := (List.getElem?_eq_some_iff.mp hi).1
  refine ⟨⟨h.gr.b.trans g.b, fun b u e => ?_, g.s, fun b e1 e2 => ?_⟩, by rw [List.length_set]; exact h.len, fun j s e => ?_, fun j k s t b e1 e2 q1 q2 => ?_⟩
  · refine g.h b u ?_
    rw [hideA_ne (ne_of_none e h4)]
    exact h.gr.h b u e
  · have z : b ≠ a := fun z => e2 (z ▸ h4)
    refine g.o b (h.gr.o b e1 e2) ?_
    rw [hideA_ne z]
    cases y : A.2 b with
    | none => exact absurd y e2
    | some u =>
      rw [h.gr.h b u y]
      simp
  · by_cases q : i = j
    · subst q
      rw [List.getElem?_set_self hil] at e
      cases e
      exact ⟨_, h1, rfl, hb, h4, xs', ha, r⟩
    · rw [List.getElem?_set_ne q] at e
      obtain ⟨w, k1, k2⟩ := h.sl j s e
      refine ⟨w, k1, k2.go g.b fun b hbo => ?_⟩
      obtain ⟨x1, x2, x3⟩ := k2.own_in hbo
      have z : b ≠ a := fun z => q (h.un i j _ s a hi e rfl (z ▸ hbo))
      have x4 : hideA a H b = H b := hideA_ne z
      refine ⟨g.o b x1 (by rw [x4]; exact x3), ?_⟩
      cases y : H b with
      | none => exact absurd y x3
      | some u => exact g.h b u (x4.trans y)
  · have f : ∀ {j : Nat} {t : Sl}, (δ.set i (.ownL a ds'))[j]? = some t → t.own = some b → ∃ t', δ[j]? = some t' ∧ t'.own = some b := fun {j t} e q => by
      by_cases z : i = j
      · subst z
        rw [List.getElem?_set_self hil] at e
        cases e
        exact ⟨_, hi, q⟩
      · rw [List.getElem?_set_ne z] at e
        exact ⟨t, e, q⟩
    obtain ⟨t1, x1, y1⟩ := f e1 q1
    obtain ⟨t2, x2, y2⟩ := f e2 q2
    exact h.un j k t1 t2 b x1 x2 y1 y2
theorem rm_dr {K : PySem.W.Frag} {δ : DS} {i : Nat} {a : Addr} {ns : List Int} {k k' : Nat} {t : TA} {ds : List D} {d : D} {Pre : List Int → Nat → List D → D → Nat → Prop} {E : XK} (hi : δ[i]? = some (.ownL a [.scr ns, nD k])) (h : RA K t δ ds) (p : Pre ns k ds d k') :
    RM K (tCall (spDr K Pre) [] E (tCons (tVar i) t)) δ (δ.set i (.ownL a [.scr ns, nD k'])) d := fun A σ Hb H q Q kk => by
  obtain ⟨o, h1, h2, h3, h4, xs, h5, h6⟩ := q.sl i _ hi
  subst h2
  refine ⟨_, h1, h A σ Hb H q _ fun us Hb1 H1 g1 r1 => ?_⟩
  show spDr K Pre ((V.ref a :: us) ++ []) H1 Q E
  rw [List.append_nil]
  exact ⟨Hb1, a, us, xs, ns, k, ds, d, k', rfl, g1.s, g1.o a h3 (by rw [h5]; simp), g1.h _ _ h5, h6.ext g1.b, r1, p, fun v Hb' H' xs' g hb ha rx rv => kk v Hb' H' (g1.b.trans g.b) ((q.grow g1).drawn hi g hb ha rx) rv⟩
end K17
/-! the walk: the law's own defs -/
namespace K17
open PySem L2 PySem.Spec PyProof.Rows
def KRow.ent (r : KRow) : Key × D := (.inr r.key, .tup [.int r.a, .int r.b, .str r.o, .str r.l])
def lawKD : List (Key × D) := lawTab.map KRow.ent
theorem look_ent (s : Str) : ∀ l : List KRow, lookK (l.map KRow.ent) (.inr s) = (l.find? fun r => decide (r.key = s)).map fun r => (D.tup [.int r.a, .int r.b, .str r.o, .str r.l])
  | [] => rfl
  | r :: l => by
    by_cases z : r.key = s
    · rw [List.find?_cons_of_pos (by exact decide_eq_true z)]
      unfold lookK
      rw [List.map_cons, List.find?_cons_of_pos (by
        apply decide_eq_true
        show (Sum.inr r.key : Key) = Sum.inr s
        rw [z])]
      rfl
    · rw [List.find?_cons_of_neg (by simpa using z), ← look_ent s l]
      unfold lookK
      rw [List.map_cons, List.find?_cons_of_neg (by
        show ¬ decide ((Sum.inr r.key : Key) = Sum.inr s) = true
        rw [decide_eq_true_eq]
        exact fun e => z (Sum.inr.inj e))]
theorem look_kd (k : Kd) : ∃ o l, lookK lawKD (.inr k.str) = some (.tup [.int (k.tk : Int), .int (k.tk : Int), .str o, .str l]) := by
  unfold lawKD
  rw [look_ent]
  have h := tab_find k
  cases q : lawTab.find? fun r => decide (r.key = k.str) with
  | none =>
    rw [q] at h
    cases h
  | some r =>
    rw [q] at h
    have h2 : some (r.a, r.b) = some ((k.tk : Int), (k.tk : Int)) := h
    have h3 := Option.some.inj h2
    have h4 : r.a = (k.tk : Int) := congrArg Prod.fst h3
    have h5 : r.b = (k.tk : Int) := congrArg Prod.snd h3
    refine ⟨r.o, r.l, ?_⟩
    show some (D.tup [.int r.a, .int r.b, .str r.o, .str r.l]) = _
    rw [h4, h5]
theorem putKD_new {gs : List (Key × D)} {k : Key} {d : D} (h : hasK gs k = false) : putKD gs k d = gs ++ [(k, d)] := by
  unfold putKD
  rw [h]
  rfl
theorem hasK_take {i : Nat} {r : KRow} (h : lawTab[i]? = some r) : hasK ((lawTab.take i).map KRow.ent) (.inr r.key) = false := by
  cases q : hasK ((lawTab.take i).map KRow.ent) (.inr r.key) with
  | false => rfl
  | true =>
    exfalso
    unfold hasK at q
    rw [List.any_eq_true] at q
    obtain ⟨kv, h1, h2⟩ := q
    obtain ⟨r2, h3, rfl⟩ := List.mem_map.mp h1
    have e : r2.key = r.key := Sum.inr.inj (of_decide_eq_true h2)
    obtain ⟨j, hj, e2⟩ := List.mem_take_iff_getElem.mp h3
    obtain ⟨hi, e3⟩ := List.getElem?_eq_some_iff.mp h
    have hn := List.pairwise_iff_getElem.mp tab_nodup j i (by rw [List.length_map]; omega) (by rw [List.length_map]; exact hi) (by omega)
    rw [List.getElem_map, List.getElem_map, e2, e3] at hn
    exact hn e
theorem RpA.ofStrs {K : PySem.W.Frag} {H : Hp} : ∀ ys : List Str, RpA K H (ys.map V.str) (ys.map D.str)
  | [] => .nil
  | y :: ys => .cons (.str y) (RpA.ofStrs ys)
section
variable {K : PySem.W.Frag} {δ : DS} {N : DS → Prop} {R : DS → D → Prop}
theorem rd_split {to te : TE} {a b : Str} {l : List D} (ho : RD K to δ (.str a)) (he : RD K te δ (.str b)) (hb : (b.length == 0) = false) (ha : a.length ≤ 10000) (e : (Txt.split a b).map D.str = l) :
    RD K (tM1 (fun x xs H Q => ∃ a b, x = .str a ∧ xs = [.str b] ∧ (b.length == 0) = false ∧ a.length + 2 ≤ sizeLine ∧ rNewStrs (Txt.split a b) H Q) to te) δ (.lst l) := fun A σ Hb H q Q k =>
  ho A σ Hb H q _ fun x Hb1 H1 g1 r1 => by
    cases r1
    refine ⟨⟨a, rfl⟩, he A σ Hb1 H1 (q.grow g1) _ fun y Hb2 H2 g2 r2 => ?_⟩
    cases r2
    refine ⟨a, b, rfl, rfl, hb, sz5 (by omega), fun p hp => ?_⟩
    subst e
    refine k _ (upd Hb2 p (.lst ((Txt.split a b).map V.str))) _ ((g1.trans g2).trans (.new g2.s hp)) (.lst upd_same ?_)
    exact RpA.ofStrs _
theorem sd_augO {i : Nat} {a : Addr} {ds : List D} {x e : Int} {ti te : TE} (hi : δ[i]? = some (.ownL a ds)) (h1 : RD K ti δ (.int 1)) (hx : ds[1]? = some (.int x)) (h2 : RD K te δ (.int e)) (n : N (δ.set i (.ownL a (ds.set 1 (.int (x + e)))))) :
    SD K (tAugS (tVar i) ti te (rIxL K) (ipI fun i j => i + j) rSetL) δ N R := fun A σ Hb H q Dn kn kr => by
  obtain ⟨o, k1, k2, k3, k4, xs, k5, k6⟩ := q.sl i _ hi
  subst k2
  have hix : L2.atI ds 1 = some (.int x) := atI_nat hx
  refine ⟨_, k1, h1 A σ Hb H q _ fun y Hb1 H1 g1 r1 => ?_⟩
  cases r1
  have q1 := q.grow g1
  have k6' := k6.ext g1.b
  obtain ⟨v, hv, rv⟩ := k6'.atI hix
  refine ⟨a, xs, 1, v, rfl, rfl, SqL.of (g1.h _ _ k5), hv, h2 A σ Hb1 H1 q1 _ fun y Hb2 H2 g2 r2 => ?_⟩
  cases rv
  cases r2
  have hl : 1 < xs.length := by
    rw [k6.len]
    exact (List.getElem?_eq_some_iff.mp hx).1
  have k5' := g2.h _ _ (g1.h _ _ k5)
  have q2 := q1.grow g2
  refine ⟨x, e, rfl, rfl, a, xs, 1, 1, rfl, rfl, k5', ?_, ?_⟩
  · unfold ixN
    rw [if_pos (by decide), if_pos (by omega)]
    rfl
  · refine kn _ σ Hb2 _ n (g1.b.trans g2.b) (q2.mut hi rfl rfl k1 ?_)
    obtain ⟨o', m1, m2, m3, m4, ys, m5, m6⟩ := q2.sl i _ hi
    rw [k5'] at m5
    cases m5
    refine ⟨rfl, m3, k4, _, upd_same, ?_⟩
    have go : ∀ {xs : List V} {ds : List D} (j : Nat), RpA K Hb2 xs ds → RpA K Hb2 (xs.set j (.int (x + e))) (ds.set j (.int (x + e))) := by
      intro xs
      induction xs with
      | nil =>
        intro ds j h
        cases h
        exact .nil
      | cons z zs ih =>
        intro ds j h
        cases h with
        | cons r t =>
          cases j with
          | zero => exact .cons (.int _) t
          | succ j => exact .cons r (ih j t)
    exact go 1 m6
theorem rd_late {a b c d a' b' c' d' : Str} : RD K (tDisp [(tC (.str a), tC (.str a')), (tC (.str b), tC (.str b')), (tC (.str c), tC (.str c')), (tC (.str d), tC (.str d'))]) δ (.dic (putKD (putKD (putKD (putKD [] (.inr a) (.str a')) (.inr b) (.str b')) (.inr c) (.str c')) (.inr d) (.str d'))) := fun A σ Hb H q Q k => by
  intro p hp
  show upd H p (.dK []) p = some (.dK []) ∧ _
  refine ⟨upd_same, [(.inr a, .str a'), (.inr b, .str b'), (.inr c, .str c'), (.inr d, .str d')], rfl, Nat.le_of_ble_eq_true rfl, ?_⟩
  have e : ∀ o : HO, upd (upd H p (.dK [])) p o = upd H p o := fun o => by
    funext z
    by_cases y : z = p
    · subst y; rw [upd_same, upd_same]
    · rw [upd_ne y, upd_ne y, upd_ne y]
  rw [e]
  refine k _ (upd Hb p _) _ (.new q.gr.s hp) (.dic upd_same ?_)
  unfold mergeK
  rw [List.foldl_cons, List.foldl_cons, List.foldl_cons, List.foldl_cons, List.foldl_nil]
  exact RpK.put (.str _) (RpK.put (.str _) (RpK.put (.str _) (RpK.put (.str _) .nil)))
end
theorem od_leD : True := trivial
section
variable {P : Program} {w : World} {K : PySem.W.Frag} {mg : Str → Option Value} {base : Heap} {kd CS CR CP : Addr}
inductive P__law_number : List D → D → Prop
  | mk (ns : List Int) (i : Nat) : P__law_number [.scr ns, nD i] (.int (lawNum ns i))
inductive P__law_take (ns : List Int) (k : Nat) : List D → D → Nat → Prop
  | mk (m : Nat) (h : 0 < m) : P__law_take ns k [nD m] (nD (lawTake ns (k + 1) m)) (k + 1)
inductive P__law_pick (ns : List Int) (k : Nat) : List D → D → Nat → Prop
  | mk (items : List D) (h : 0 < items.length) (d : D) (e : items[lawTake ns (k + 1) items.length]? = some d) : P__law_pick ns k [.lst items] d (k + 1)
inductive P__law_steady_rows (ns : List Int) (k : Nat) : List D → D → Nat → Prop
  | mk : P__law_steady_rows ns k [] (rowsD (lawRows ns k)) (k + 1 + 3 * lawCnt ns k)
inductive P__law_kinds : List D → D → Prop
  | mk : P__law_kinds [] (.dic lawKD)
inductive P__law_takes : List D → D → Prop
  | mk (w : Wd) (h : w.length ≤ 9999) : P__law_takes [wD w, .dic lawKD] (nD (tkW w))
inductive P__law_turns : List D → D → Prop
  | mk (r : Rw) (h : r.Ok) (n : Nat) : P__law_turns [rowD r, nD n, .dic lawKD] (if r.fits n then nD (r.turns n) else .non)
inductive P__law_other_hand : List D → D → Prop
  | mk (w : Wd) (h : w.length ≤ 9999) : P__law_other_hand [wD w] (wD (w.map Kd.oh))
abbrev s__law_number : Stmt := topS 70
theorem sc__law_number : FnScope ["_law_script", "_law_index", "_law_cell", "_law_blend"] ["_law_script", "_law_index"] (defScope s__law_number) := ⟨rfl, rfl, rfl, by decide +kernel, rfl, by decide +kernel, by decide +kernel⟩
theorem ok__law_number {f : Addr} {fd : FuncData} (F : Fun K "_law_number" "_law_number" s__law_number f fd) (T : Txt K w mg kd CS CR CP)   : FnOk P w K mg base CX0 1 f fd ["_law_script", "_law_index"] (spF K (P__law_number)) := by
  have sc := sc__law_number
  refine fnD F sc (fun ds d h => by cases h; rfl) fun cdv A outer s H E hr => ⟨_,
    (pss_cons (ps_if (pt_cmpR (op_eqDK K hr.units) (pv 0) (pe_lst pa_nil) (by first | exact nomark _ | rfl)) (pss_one (ps_ret (pe_callTy call_int1 (by rfl) T.n_int (by decide +kernel) (pa_cons (pe_op op_mod (pe_op op_add (pe_op op_mul (pv 1) pe_int) pe_int) pe_int) pa_nil)))) pss_nil)
      (pss_cons (ps_set (i := 2) sc.nd rfl (Or.inl rfl) (pe_ix (ix_listK K) (pv 0) (pe_op op_mod (pv 1) (pe_callB call_len_seq (by rfl) T.n_len PySem.boot_len (pa_cons (pv 0) pa_nil))) (fun _ _ => rfl)))
      (pss_cons (ps_if (pt_cmpR op_ge (pe_callB call_abs (by rfl) T.n_abs (by decide +kernel) (pa_cons (pv 2) pa_nil)) (pe_op op_pow pe_int pe_int) (by first | exact nomark _ | rfl)) (pss_one (ps_set (i := 2) sc.nd rfl (Or.inl rfl) (pe_op op_mod (pv 2) (pe_op op_pow pe_int pe_int)))) pss_nil)
      (pss_cons (ps_set (i := 3) sc.nd rfl (Or.inl rfl) (pe_op op_mod (pe_op op_add (pe_op op_mul (pe_op op_add (pv 2) (pe_op op_mul pe_int (pv 1))) pe_int) (pe_op op_mul pe_int (pe_callB call_len_seq (by rfl) T.n_len PySem.boot_len (pa_cons (pv 0) pa_nil)))) pe_int))
      (pss_one (ps_ret (pe_callTy call_int1 (by rfl) T.n_int (by decide +kernel) (pa_cons (pe_op op_mod (pe_op op_add (pe_op op_mul (pe_op op_mod (pe_op op_mul (pv 3) pe_int) pe_int) pe_int) (pv 1)) pe_int) pa_nil)))))))), fun ds d h => ?_⟩
  obtain ⟨ns, i⟩ := h
  refine sq_if (x := decide (ns = [])) (rt_test (rd_op (rd_var rfl) (rd_lst ra_nil (le5 rfl)) od_eqScr)) (fun h1 => ?_) (fun h1 => ?_)
  · refine sd_ret (rd_cb (ra_one (rd_op (rd_op (rd_op (rd_var rfl) rd_int (od_C ?_)) rd_int od_i) rd_int (od_C (by show (0 : Int) < _; decide)))) cd_int1) ?_
    · unfold CMul
      omega
    · unfold lawNum
      rw [if_pos (of_decide_eq_true h1)]
  · have hne := of_decide_eq_false h1
    have hl := List.length_pos_iff.mpr hne
    have hlt := Nat.mod_lt i hl
    refine sq_asg (rd_op (rd_var rfl) (rd_eq (e := .int ((i % ns.length : Nat) : Int)) (rd_op (rd_var rfl) (rd_cb (ra_one (rd_var rfl)) cd_lenS) (od_C (by show (0 : Int) < (ns.length : Int); omega))) ?_) (od_ixS (z := ns.getD (i % ns.length) 0) (atI_nat ?_))) ?_
    · show D.int ((i : Int) % (ns.length : Int)) = D.int ((i % ns.length : Nat) : Int)
      rw [Int.natCast_emod]
    · rw [List.getD_eq_getElem?_getD, List.getElem?_eq_getElem hlt]
      rfl
    generalize hc : ns.getD (i % ns.length) 0 = c
    refine sd_seq (N' := fun δ' => δ' = [.dat (.scr ns), .dat (nD i), .dat (.int (if ((c.natAbs : Int) ≥ 10 ^ 60) then c % 10 ^ 18 else c)), .no]) (sd_if (x := decide ((c.natAbs : Int) ≥ 10 ^ 60)) (rt_test (rd_op (rd_cb (ra_one (rd_var rfl)) cd_abs) (rd_eq (e := .int (10 ^ 60)) (rd_op rd_int rd_int (od_C ⟨by decide, by decide, by decide⟩)) rfl) od_b)) (fun h2 => ?_) (fun h2 => ?_)) ?_
    · refine sd_asg (rd_op (rd_var rfl) (rd_eq (e := .int (10 ^ 18)) (rd_op rd_int rd_int (od_C ⟨by decide, by decide, by decide⟩)) rfl) (od_C (by show (0 : Int) < 10 ^ 18; decide))) ?_
      rw [if_pos (of_decide_eq_true h2)]
      rfl
    · refine sd_next ?_
      rw [if_neg (of_decide_eq_false h2)]
      rfl
    · rintro δ1 rfl
      generalize hc2 : (if ((c.natAbs : Int) ≥ 10 ^ 60) then c % 10 ^ 18 else c) = c2
      refine sq_asg (rd_op (rd_op (rd_op (rd_op (rd_var rfl) (rd_op rd_int (rd_var rfl) (od_C ?_)) od_i) rd_int (od_C ?_)) (rd_op rd_int (rd_cb (ra_one (rd_var rfl)) cd_lenS) (od_C ?_)) od_i) rd_int (od_C (by show (0 : Int) < _; decide))) ?_
      · unfold CMul
        omega
      · unfold CMul
        omega
      · unfold CMul
        omega
      refine sd_ret (rd_cb (ra_one (rd_op (rd_op (rd_op (rd_op (rd_op (rd_var rfl) rd_int (od_C ?_)) rd_int (od_C (by show (0 : Int) < _; decide))) rd_int (od_C ?_)) (rd_var rfl) od_i) rd_int (od_C (by show (0 : Int) < _; decide)))) cd_int1) ?_
      · unfold CMul
        omega
      · unfold CMul
        omega
      · unfold lawNum
        rw [if_neg hne]
        simp only [hc, hc2]
abbrev s__law_take : Stmt := topS 71
theorem sc__law_take : FnScope ["_law_draw", "_law_many"] ["_law_draw", "_law_many"] (defScope s__law_take) := ⟨rfl, rfl, rfl, by decide +kernel, rfl, by decide +kernel, by decide +kernel⟩
theorem ok__law_take {f : Addr} {fd : FuncData} (F : Fun K "_law_take" "_law_take" s__law_take f fd) (T : Txt K w mg kd CS CR CP) (c__law_number : C8.Cal P w K mg base 1 "_law_number" (spF K (P__law_number)) [])  : FnOk P w K mg base CX0 2 f fd ["_law_draw", "_law_many"] (spDr K P__law_take) := by
  have sc := sc__law_take
  refine fnDr F sc (fun ns k ds d k' h => by cases h; rfl) fun cdv A outer s H E hr => ⟨_,
    (pss_cons (ps_augS (pv 0) pe_int get_list pe_int ip_add set_list)
      (pss_one (ps_ret (pe_op op_mod (pe_callTy call_int1 (by rfl) T.n_int (by decide +kernel) (pa_cons (C8.pe_c c__law_number hr (by decide) rfl (pa_cons (pe_ix (ix_listK K) (pv 0) pe_int (fun _ _ => rfl)) (pa_cons (pe_callTy call_int1 (by rfl) T.n_int (by decide +kernel) (pa_cons (pe_ix (ix_listK K) (pv 0) pe_int (fun _ _ => rfl)) pa_nil)) pa_nil))) pa_nil)) (pv 1))))), fun a ns k ds d k' h => ?_⟩
  obtain ⟨m, hm⟩ := h
  refine sd_seq (N' := fun δ' => δ' = [.ownL a [.scr ns, nD (k + 1)], .dat (nD m)]) (sd_augO rfl rd_int rfl rd_int rfl) ?_
  rintro δ1 rfl
  refine sd_ret (rd_op (rd_cb (ra_one (rd_call (ra_cons (rd_ixO rfl rd_int rfl) (ra_one (rd_cb (ra_one (rd_ixO rfl rd_int rfl)) cd_int1))) (.mk ns (k + 1)))) cd_int1) (rd_var rfl) (od_C (by show (0 : Int) < (m : Int); omega))) ⟨?_, rfl⟩
  show D.int (lawNum ns (k + 1) % (m : Int)) = D.int ((lawTake ns (k + 1) m : Nat) : Int)
  unfold lawTake
  have := Int.emod_nonneg (lawNum ns (k + 1)) (show (m : Int) ≠ 0 by omega)
  congr 1
  omega
abbrev s__law_pick : Stmt := topS 72
theorem sc__law_pick : FnScope ["_law_draw", "_law_items"] ["_law_draw", "_law_items"] (defScope s__law_pick) := ⟨rfl, rfl, rfl, by decide +kernel, rfl, by decide +kernel, by decide +kernel⟩
theorem ok__law_pick {f : Addr} {fd : FuncData} (F : Fun K "_law_pick" "_law_pick" s__law_pick f fd) (T : Txt K w mg kd CS CR CP) (c__law_take : C8.Cal P w K mg base 2 "_law_take" (spDr K P__law_take) [])  : FnOk P w K mg base CX0 3 f fd ["_law_draw", "_law_items"] (spDr K P__law_pick) := by
  have sc := sc__law_pick
  refine fnDr F sc (fun ns k ds d k' h => by cases h; rfl) fun cdv A outer s H E hr => ⟨_,
    (pss_one (ps_ret (pe_ix (ix_listK K) (pv 1) (C8.pe_c c__law_take hr (by decide) rfl (pa_cons (pv 0) (pa_cons (pe_callB call_len_seq (by rfl) T.n_len PySem.boot_len (pa_cons (pv 1) pa_nil)) pa_nil))) (fun _ _ => rfl)))), fun a ns k ds d k' h => ?_⟩
  obtain ⟨items, hl, d, e⟩ := h
  exact sdm_ret (rm_op (rm_rd (rd_var rfl)) (rm_dr rfl (ra_one (rd_cb (ra_one (rd_var rfl)) cd_lenL)) (.mk items.length hl)) (od_ixL (atI_nat e))) ⟨rfl, rfl⟩
abbrev s__law_kinds : Stmt := topS 73
theorem sc__law_kinds : FnScope ["_law_found", "_law_table", "_law_told", "_law_row"] [] (defScope s__law_kinds) := ⟨rfl, rfl, rfl, by decide +kernel, rfl, by decide +kernel, by decide +kernel⟩
theorem ok__law_kinds {f : Addr} {fd : FuncData} (F : Fun K "_law_kinds" "_law_kinds" s__law_kinds f fd) (T : Txt K w mg kd CS CR CP)   : FnOk P w K mg base CX0 1 f fd [] (spF K (P__law_kinds)) := by
  have sc := sc__law_kinds
  refine fnD F sc (fun ds d h => by cases h; rfl) fun cdv A outer s H E hr => ⟨_,
    (pss_cons (ps_set (i := 0) sc.nd rfl (Or.inl rfl) pe_dnewK)
      (pss_cons (ps_set (i := 1) sc.nd rfl (Or.inl rfl) pe_str)
      (pss_cons (ps_for PassesOwn.never rfl (pi_listK K (pe_split (pv 1) pe_str)) (pg_name (i := 2) sc.nd rfl (Or.inl rfl))
      (pss_cons (ps_set (i := 3) sc.nd rfl (Or.inl rfl) (pe_split (pv 2) pe_str))
      (pss_one (ps_dput (hu_of hr) (pv 0) (pe_ix (ix_listK K) (pv 3) pe_int (fun _ _ => rfl)) (pe_tup (pa_cons (pe_callTy call_int_str (by rfl) T.n_int (by decide +kernel) (pa_cons (pe_ix (ix_listK K) (pv 3) pe_int (fun _ _ => rfl)) pa_nil)) (pa_cons (pe_callTy call_int_str (by rfl) T.n_int (by decide +kernel) (pa_cons (pe_ix (ix_listK K) (pv 3) pe_int (fun _ _ => rfl)) pa_nil)) (pa_cons (pe_ix (ix_listK K) (pv 3) pe_int (fun _ _ => rfl)) (pa_cons (pe_ix (ix_listK K) (pv 3) pe_int (fun _ _ => rfl)) pa_nil))))) rfl))))
      (pss_one (ps_ret (pv 0)))))), fun ds d h => ?_⟩
  obtain ⟨⟩ := h
  refine sq_newD fun p => sq_asg rd_str ?_
  refine sq_forM (l := lawTab) (enc := fun r => .str r.told) (wi_list (rd_split (a := lawTxt) (rd_var rfl) rd_str rfl txt_len (by rw [show Txt.split lawTxt (Str.ofString ", ") = lawTab.map KRow.told from tab_split, List.map_map]; rfl))) (fun i δ1 => ∃ s2 s3, δ1 = [.ownD p ((lawTab.take i).map KRow.ent), .dat (.str lawTxt), s2, s3]) ⟨_, _, rfl⟩ ?_ ?_
  · rintro i r δ1 hi ⟨s2, s3, rfl⟩
    have hg := tab_good r (List.mem_of_getElem? hi)
    unfold KRow.good at hg
    simp only [Bool.and_eq_true, decide_eq_true_eq] at hg
    obtain ⟨⟨⟨⟨⟨g1, g2⟩, g3⟩, g4⟩, g5⟩, g6⟩ := hg
    refine ⟨_, _, gd_name, sq_asg (rd_split (l := [.str r.key, .str r.sa, .str r.sb, .str r.o, .str r.l]) (rd_var rfl) rd_str rfl (by omega) (by rw [show Txt.split r.told (Str.ofString " ") = _ from g1]; rfl)) ?_⟩
    have ci : ∀ {s : Str} {n : Int}, PySem.intText? s = some n → s.length ≤ 640 → CD K (fun xs H Q => ∃ a n, xs = [.str a] ∧ PySem.intText? a = some n ∧ a.length ≤ 640 ∧ Q (.int n) H) [.str s] (.int n) := fun {s n} e1 e2 vs Hb H s' rr Q kk => by
      obtain ⟨v, rfl, r1⟩ := rr.one_inv
      cases r1
      exact ⟨_, n, rfl, e1, e2, kk _ Hb H (.refl s') (.int _)⟩
    refine sd_dput (k := .inr r.key) rfl (rd_tup (ra_cons (rd_cb (ra_one (rd_op (rd_var rfl) rd_int (od_ixL rfl))) (ci g2 g4)) (ra_cons (rd_cb (ra_one (rd_op (rd_var rfl) rd_int (od_ixL rfl))) (ci g3 g5)) (ra_cons (rd_op (rd_var rfl) rd_int (od_ixL rfl)) (ra_one (rd_op (rd_var rfl) rd_int (od_ixL rfl)))))) (le5 rfl)) (rd_op (rd_var rfl) rd_int (od_ixL rfl)) ?_ ⟨.dat (.str r.told), .dat (.lst [.str r.key, .str r.sa, .str r.sb, .str r.o, .str r.l]), ?_⟩
    · rw [List.length_map, List.length_take, tab_len]
      omega
    · rw [putKD_new (hasK_take hi), take_snoc hi, List.map_append]
      rfl
  · rintro δ1 ⟨s2, s3, rfl⟩
    rw [List.take_length]
    exact sd_frzD (i := 0) rfl (sd_ret (rd_var rfl) rfl)
abbrev s__law_takes : Stmt := topS 74
theorem sc__law_takes : FnScope ["_law_word", "_law_kinds_here", "_law_kind", "_law_yarn"] ["_law_word", "_law_kinds_here"] (defScope s__law_takes) := ⟨rfl, rfl, rfl, by decide +kernel, rfl, by decide +kernel, by decide +kernel⟩
theorem ok__law_takes {f : Addr} {fd : FuncData} (F : Fun K "_law_takes" "_law_takes" s__law_takes f fd) (T : Txt K w mg kd CS CR CP)   : FnOk P w K mg base CX0 1 f fd ["_law_word", "_law_kinds_here"] (spF K (P__law_takes)) := by
  have sc := sc__law_takes
  refine fnD F sc (fun ds d h => by cases h; rfl) fun cdv A outer s H E hr => ⟨_,
    (pss_one (ps_ret (pe_callB (cr_sum rfl) (by rfl) T.n_sum (by decide +kernel) (pa_cons (pe_lc (own := [("_law_kind", 2), ("_law_yarn", 3)]) (g := (gTup K 2 (gCons (gName 2) (gCons (gName 3) gNil)))) (tt := tYes) rfl sc.nd (pi_tupK K (pv 0)) (blkOk_by (N := ["_law_word", "_law_kinds_here", "_law_kind", "_law_yarn"]) (sc := defScope s__law_takes) (by decide +kernel)) (fun _ _ _ _ _ => (pg_tup rfl (pgs_cons (pg_name (i := 2) sc.nd rfl (Or.inl rfl)) (pgs_cons (pg_name (i := 3) sc.nd rfl (Or.inl rfl)) pgs_nil)))) (fun _ _ _ _ _ => pts_nil) (fun _ _ _ _ _ => (pe_ix (ix_tupK K) (pe_dget (hu_of hr) (pv 1) (pv 2) (fun _ _ => rfl)) pe_int (fun _ _ => rfl)))) pa_nil)))), fun ds d h => ?_⟩
  obtain ⟨w, hw⟩ := h
  refine sd_ret ?_ rfl
  refine rd_eq (rd_cb (ra_one (rd_eq (rd_lcM (enc := cellD) (f := fun k => nD k.tk) (wi_tup (rd_var rfl)) (by omega) fun k _ => ⟨_, _, gd_tup2, by decide, ?_⟩) ?_)) (cd_sum (ns := w.map fun k => (k.tk : Int)))) ?_
  · obtain ⟨o, l, e⟩ := look_kd k
    exact rd_op (rd_dget (k := .inr k.str) (rd_var rfl) (rd_var rfl) e) rd_int (od_ixT rfl)
  · rw [List.map_map]
    rfl
  · show D.int _ = D.int _
    rw [tkW, ← sumI, List.map_map]
    rfl
abbrev s__law_turns : Stmt := topS 75
theorem sc__law_turns : FnScope ["_law_row", "_law_loops", "_law_kinds_here", "_law_left", "_law_group"] ["_law_row", "_law_loops", "_law_kinds_here"] (defScope s__law_turns) := ⟨rfl, rfl, rfl, by decide +kernel, rfl, by decide +kernel, by decide +kernel⟩
theorem ok__law_turns {f : Addr} {fd : FuncData} (F : Fun K "_law_turns" "_law_turns" s__law_turns f fd) (T : Txt K w mg kd CS CR CP) (c__law_takes : C8.Cal P w K mg base 1 "_law_takes" (spF K (P__law_takes)) [])  : FnOk P w K mg base CX0 2 f fd ["_law_row", "_law_loops", "_law_kinds_here"] (spF K (P__law_turns)) := by
  have sc := sc__law_turns
  refine fnD F sc (fun ds d h => by cases h; rfl) fun cdv A outer s H E hr => ⟨_,
    (pss_cons (ps_set (i := 3) sc.nd rfl (Or.inl rfl) (pe_op op_sub (pe_op op_sub (pv 1) (C8.pe_c c__law_takes hr (by decide) rfl (pa_cons (pe_ix (ix_tupK K) (pv 0) pe_int (fun _ _ => rfl)) (pa_cons (pv 2) pa_nil)))) (C8.pe_c c__law_takes hr (by decide) rfl (pa_cons (pe_ix (ix_tupK K) (pv 0) pe_int (fun _ _ => rfl)) (pa_cons (pv 2) pa_nil)))))
      (pss_cons (ps_if (pt_cmpR (op_eqDK K hr.units) (pe_ix (ix_tupK K) (pv 0) pe_int (fun _ _ => rfl)) (pe_tup pa_nil) (by first | exact nomark _ | rfl)) (pss_one (ps_ret (pe_ifExp (pt_cmpR op_eq (pv 3) pe_int (by first | exact nomark _ | rfl)) pe_int pe_non))) pss_nil)
      (pss_cons (ps_set (i := 4) sc.nd rfl (Or.inl rfl) (C8.pe_c c__law_takes hr (by decide) rfl (pa_cons (pe_ix (ix_tupK K) (pv 0) pe_int (fun _ _ => rfl)) (pa_cons (pv 2) pa_nil))))
      (pss_one (ps_ret (pe_ifExp (PW.pt (pw_and (pt_cmpR op_ge (pv 3) pe_int (by first | exact nomark _ | rfl)) (pw_and1 (pt_cmpR op_eq (pe_op op_mod (pe_callTy call_int1 (by rfl) T.n_int (by decide +kernel) (pa_cons (pv 3) pa_nil)) (pv 4)) pe_int (by first | exact nomark _ | rfl))))) (pe_callTy call_int1 (by rfl) T.n_int (by decide +kernel) (pa_cons (pe_op op_fdiv (pv 3) (pv 4)) pa_nil)) pe_non)))))), fun ds d h => ?_⟩
  obtain ⟨r, hr', n⟩ := h
  have lb := hr'.lb
  have la := hr'.la
  have lg := hr'.lg
  have hgs := hr'.gs
  have hg : r.g.isEmpty = false := by
    cases e : r.g with
    | nil => exact absurd e hr'.g0
    | cons _ _ => rfl
  refine sq_asg (rd_eq (e := .int ((n : Int) - (r.need : Int))) (rd_op (rd_op (rd_var rfl) (rd_call (ra_cons (rd_op (rd_var rfl) rd_int (od_ixT rfl)) (ra_one (rd_var rfl))) (.mk r.b (by omega))) od_i) (rd_call (ra_cons (rd_op (rd_var rfl) rd_int (od_ixT rfl)) (ra_one (rd_var rfl))) (.mk r.a (by omega))) od_i) ?_) ?_
  · show D.int ((n : Int) - (tkW r.b : Int) - (tkW r.a : Int)) = D.int ((n : Int) - ((tkW r.b + tkW r.a : Nat) : Int))
    congr 1
    omega
  refine sq_no (rt_eq (rt_test (rd_op (rd_op (rd_var rfl) rd_int (od_ixT rfl)) (rd_tup ra_nil (le5 rfl)) od_eqW)) hg) ?_
  refine sq_asg (rd_eq (e := nD r.gr) (rd_call (ra_cons (rd_op (rd_var rfl) rd_int (od_ixT rfl)) (ra_one (rd_var rfl))) (.mk r.g (by omega))) rfl) ?_
  refine sd_ret (rd_if (x := decide (r.fits n)) (d := if r.fits n then nD (r.turns n) else .non) (rt_eq (rt_and (rt_test (rd_op (rd_var rfl) rd_int od_b)) fun _ => rt_test (rd_op (rd_op (rd_cb (ra_one (rd_var rfl)) cd_int1) (rd_var rfl) (od_C (by show (0 : Int) < (r.gr : Int); omega))) rd_int od_eqI)) ?_) (fun h1 => ?_) (fun h1 => ?_)) rfl
  · apply Bool.eq_iff_iff.mpr
    rw [Bool.and_eq_true, decide_eq_true_eq, decide_eq_true_eq, decide_eq_true_eq]
    show _ ↔ r.need ≤ n ∧ (n - r.need) % r.gr = 0
    constructor
    · rintro ⟨h1, h2⟩
      refine ⟨by omega, ?_⟩
      rw [show (n : Int) - (r.need : Int) = ((n - r.need : Nat) : Int) by omega, ← Int.natCast_emod] at h2
      omega
    · rintro ⟨h1, h2⟩
      refine ⟨by omega, ?_⟩
      rw [show (n : Int) - (r.need : Int) = ((n - r.need : Nat) : Int) by omega, ← Int.natCast_emod, h2]
      rfl
  · have hf := of_decide_eq_true h1
    rw [if_pos hf]
    refine rd_cb (ra_one (rd_eq (e := nD (r.turns n)) (rd_op (rd_var rfl) (rd_var rfl) (od_C ⟨by show (0 : Int) < (r.gr : Int); omega, by show (r.gr : Int) < 1073741824; omega⟩)) ?_)) cd_int1
    show D.int (((n : Int) - (r.need : Int)) / (r.gr : Int)) = D.int ((r.turns n : Nat) : Int)
    congr 1
    have := hf.1
    unfold Rw.turns
    rw [show (n : Int) - (r.need : Int) = ((n - r.need : Nat) : Int) by omega]
    rfl
  · rw [if_neg (of_decide_eq_false h1)]
    exact rd_non
abbrev s__law_other_hand : Stmt := topS 77
theorem sc__law_other_hand : FnScope ["_law_word", "_law_late", "_law_kind", "_law_yarn"] ["_law_word"] (defScope s__law_other_hand) := ⟨rfl, rfl, rfl, by decide +kernel, rfl, by decide +kernel, by decide +kernel⟩
theorem ok__law_other_hand {f : Addr} {fd : FuncData} (F : Fun K "_law_other_hand" "_law_other_hand" s__law_other_hand f fd) (T : Txt K w mg kd CS CR CP)   : FnOk P w K mg base CX0 1 f fd ["_law_word"] (spF K (P__law_other_hand)) := by
  have sc := sc__law_other_hand
  refine fnD F sc (fun ds d h => by cases h; rfl) fun cdv A outer s H E hr => ⟨_,
    (pss_cons (ps_set (i := 1) sc.nd rfl (Or.inr rfl) (pe_disp (pps_cons pe_str pe_str (pps_cons pe_str pe_str (pps_cons pe_str pe_str (pps_cons pe_str pe_str pps_nil)))) (by rfl) (by rfl) (fun z => by cases z) (by decide)))
      (pss_one (ps_ret (pe_callTy (call_tupleK K) (by rfl) T.n_tuple (by decide +kernel) (pa_cons (pe_lc (own := [("_law_kind", 2), ("_law_yarn", 3)]) (g := (gTup K 2 (gCons (gName 2) (gCons (gName 3) gNil)))) (tt := tYes) rfl sc.nd (pi_tupK K (pv 0)) (blkOk_by (N := ["_law_word", "_law_late", "_law_kind", "_law_yarn"]) (sc := defScope s__law_other_hand) (by decide +kernel)) (fun _ _ _ _ _ => (pg_tup rfl (pgs_cons (pg_name (i := 2) sc.nd rfl (Or.inl rfl)) (pgs_cons (pg_name (i := 3) sc.nd rfl (Or.inl rfl)) pgs_nil)))) (fun _ _ _ _ _ => pts_nil) (fun _ _ _ _ _ => (pe_tup (pa_cons (pe_ifExp (pt_cmp (pc_din (hu_of hr) (pv 2) (pv 1))) (pe_dget (hu_of hr) (pv 1) (pv 2) (fun _ _ => rfl)) (pv 2)) (pa_cons (pv 3) pa_nil))))) pa_nil))))), fun ds d h => ?_⟩
  obtain ⟨w, hw⟩ := h
  refine sq_asg rd_late ?_
  refine sd_ret (rd_eq (rd_cb (ra_one (rd_lcM (enc := cellD) (f := fun k => cellD k.oh) (l := w) (wi_tup (rd_var rfl)) (by omega) fun k _ => ⟨_, _, gd_tup2, by decide, ?_⟩)) cd_tupleL) ?_) rfl
  · refine rd_tup (ra_cons ?_ (ra_one (rd_var rfl))) (le5 rfl)
    have hh : hasK (putKD (putKD (putKD (putKD [] (.inr "c2f") (.str "c2b")) (.inr "c2b") (.str "c2f")) (.inr "c4f") (.str "c4b")) (.inr "c4b") (.str "c4f")) (.inr k.str) = decide (k = .c2f ∨ k = .c2b ∨ k = .c4f ∨ k = .c4b) := by
      rw [hasK_put, hasK_put, hasK_put, hasK_put]
      cases k <;> decide +kernel
    refine rd_if (x := decide (k = .c2f ∨ k = .c2b ∨ k = .c4f ∨ k = .c4b)) (rt_eq (rt_B (rd_din (k := .inr k.str) (rd_var rfl) (rd_var rfl))) hh) (fun h1 => ?_) (fun h1 => ?_)
    · refine rd_dget (k := .inr k.str) (rd_var rfl) (rd_var rfl) ?_
      rcases of_decide_eq_true h1 with e | e | e | e <;> subst e <;> rfl
    · have h2 := of_decide_eq_false h1
      refine rd_eq (rd_var rfl) ?_
      cases k <;> first | rfl | exact absurd (by decide) h2
  · show D.tup _ = D.tup _
    rw [List.map_map]
    rfl
end
end K17
/-! the walk: the law -/
namespace K17
open PySem L2 PySem.Spec PyProof.Rows
section
variable {K : PySem.W.Frag} {δ : DS} {N : DS → Prop} {R : DS → D → Prop} {t : TA} {u : TS} {a b c : D}
theorem sq_par3 {i j l : Nat} (h : RA K t δ [a, b, c]) (k : SD K u (((δ.set i (.dat a)).set j (.dat b)).set l (.dat c)) N R) : SD K (tSeq (tPar3 i j l t) u) δ N R := fun A σ Hb H q Dn kn kr =>
  h A σ Hb H q _ fun vs Hb1 H1 g1 r1 => by
    cases r1 with
    | cons r r' =>
      obtain ⟨v, w, rfl, rv, rw'⟩ := r'.two_inv
      exact ⟨_, v, w, rfl, k A _ Hb1 H1 ((((q.grow g1).set r).set rv).set rw') Dn (fun δ' σ' Hb' H' n e q => kn δ' σ' Hb' H' n (g1.b.trans e) q) fun δ' d v σ' Hb' H' r e q p => kr δ' d v σ' Hb' H' r (g1.b.trans e) q p⟩
theorem sd_norm {δ' : DS} {u : TS} (e : δ = δ') (h : SD K u δ' N R) : SD K u δ N R := e ▸ h
theorem pickI_map {α β : Type} (f : α → β) (xs : List α) (l h s : Option Int) : pickI (xs.map f) l h s = (pickI xs l h s).map f := by
  unfold pickI
  rw [List.length_map, List.map_filterMap]
  apply filterMap_cong
  intro i _
  exact List.getElem?_map
theorem nsL_int (l : List Nat) : nsL l = .lst ((l.map fun (n : Nat) => (n : Int)).map D.int) := by
  unfold nsL
  rw [nI_map]
theorem od_neN {x y : List Nat} : OD K (rNeD K) (nsL x) (nsL y) (.bl (!decide (x = y))) := by
  rw [nsL_int, nsL_int]
  have h := od_neLI (K := K) (as := x.map fun (n : Nat) => (n : Int)) (bs := y.map fun (n : Nat) => (n : Int))
  have e : decide ((x.map fun (n : Nat) => (n : Int)) = y.map fun (n : Nat) => (n : Int)) = decide (x = y) := by
    apply decide_eq_decide.mpr
    constructor
    · intro h
      exact (List.map_inj_right fun a b h => Int.ofNat.inj h).mp h
    · intro h
      rw [h]
  rwa [e] at h
theorem cd_sortedN {l : List Nat} {n : Nat} (h : l.Perm (List.range n)) : CD K (rSortedI K) [nsL l] (nsL (List.range n)) := fun vs Hb H s r Q k => by
  rw [nsL_int] at r
  obtain ⟨v, rfl, r1⟩ := r.one_inv
  cases r1 with
  | lst hx r =>
    have e := r.ints
    subst e
    refine ⟨_, l.map fun (n : Nat) => (n : Int), rfl, SqL.of (s _ _ hx), fun ns' p h1 h2 hp => ?_⟩
    have e : ns' = (List.range n).map fun (n : Nat) => (n : Int) := by
      refine List.Perm.eq_of_pairwise (le := (· ≤ ·)) (fun a b _ _ => Int.le_antisymm) h2 ?_ (h1.trans (h.map _))
      rw [List.pairwise_map]
      exact List.pairwise_lt_range.imp fun z => by omega
    subst e
    rw [nsL_int] at k
    exact k _ (upd Hb p (.lst _)) _ (.new s hp) (.lst upd_same (.ofInts _))
end
theorem B_sok {f g : Fm} {s : Nat} (hf : f.B s) (hg : g.B s) (h : s ≤ 1900) : SOk f g := by
  have h1 := hf.st
  have h2 := hg.st
  exact ⟨hf.wf, hg.wf, Nat.le_trans (d4_le (Nat.lcm_dvd hf.p4 hg.p4)) (by decide), by omega⟩
theorem wbOk_of {rows : List Rw} {m : Nat} {b : Bool} (h : RowsOk rows) (hl : rows.length ≤ 3) (h1 : 1 ≤ m) (h2 : m ≤ 4) : WbOk rows m b := by
  refine ⟨h, h1, ?_⟩
  have := (roundOf_len6 b (.inl hl)).1
  have := Nat.mul_le_mul h2 this
  omega
section
variable {K : PySem.W.Frag} {δ : DS} {ta tb : TE} {CS : Addr} {f g : Fm} {E : XK}
theorem rd_within (h1 : RD K ta δ (szD CS f)) (h2 : RD K tb δ (szD CS g)) (s : SOk f g) : RD K (tMeth CS "within" (spF K (P_Sizes_within CS)) [] E ta (tCons tb tNil)) δ (.bl (within f g)) :=
  rd_meth (gs := szG f) h1 rfl (ra_one h2) (.mk f g s)
theorem rd_sAnd (h1 : RD K ta δ (szD CS f)) (h2 : RD K tb δ (szD CS g)) (s : SOk f g) : RD K (tOp (rOwn CS (spF K (P_Sizes___and__ CS))) ta tb) δ (szD CS (sAnd f g)) :=
  rd_op h1 h2 (od_own (gs := szG f) (gs' := szG g) (.mk f g s))
theorem rd_memS {n : Nat} (h1 : RD K ta δ (nD n)) (h2 : RD K tb δ (szD CS f)) (hp : 0 < f.period) : RD K (tOp (rOwnIn CS (spF K (P_Sizes___contains__ CS))) ta tb) δ (.bl (f.mem n)) :=
  rd_op h1 h2 (od_ownIn (gs := szG f) (.mk f n hp))
theorem rd_neS (h1 : RD K ta δ (szD CS f)) (h2 : RD K tb δ (szD CS g)) : RD K (tOp (rOwnNe CS (spF K (P_Sizes___eq__ CS))) ta tb) δ (.bl (!decide (f = g))) :=
  rd_op h1 h2 (od_ownNe (gs := szG f) (gs' := szG g) (.mk f g))
theorem rd_wb {tr tm tw : TE} {rows : List Rw} {m : Nat} {b : Bool} (h1 : RD K tr δ (rowsD rows)) (h2 : RD K tm δ (nD m)) (h3 : RD K tw δ (.str (wayS b))) (w : WbOk rows m b) : RD K (tCall (spF K (P_where_back CS)) [] E (tCons tr (tCons tm (tCons tw tNil)))) δ (szD CS (whereBack rows m b)) :=
  rd_call (ra_cons h1 (ra_cons h2 (ra_one h3))) (.mk rows m b w)
end
def gD (g : Wd) : D := .tup (g.map fun k => .str k.str)
section
variable {P : Program} {w : World} {K : PySem.W.Frag} {mg : Str → Option Value} {base : Heap} {kd CS CR CP : Addr}
inductive P_law : List D → D → Prop
  | mk (ns : List Int) : P_law [.scr ns] (.bl true)
theorem rowsTake {ns : List Int} {k i x : Nat} (h : (List.range (lawCnt ns k))[i]? = some x) : x = i := by
  obtain ⟨h1, h2⟩ := List.getElem?_eq_some_iff.mp h
  rw [List.getElem_range] at h2
  exact h2.symm
theorem getD_map {α : Type} {l : List Wd} {f : Wd → D} {i : Nat} (h : i < l.length) : (l.map f)[i]? = some (f (l.getD i [])) := by
  rw [List.getElem?_map, List.getD_eq_getElem?_getD, List.getElem?_eq_getElem h]
  rfl
abbrev s__law_steady_rows : Stmt := topS 76
theorem sc__law_steady_rows : FnScope ["_law_draw", "_law_groups", "_law_found", "_law_at", "_law_before", "_law_after", "_law_kind"] ["_law_draw"] (defScope s__law_steady_rows) := ⟨rfl, rfl, rfl, by decide +kernel, rfl, by decide +kernel, by decide +kernel⟩
theorem ok__law_steady_rows {f : Addr} {fd : FuncData} (F : Fun K "_law_steady_rows" "_law_steady_rows" s__law_steady_rows f fd) (T : Txt K w mg kd CS CR CP) (c__law_pick : C8.Cal P w K mg base 3 "_law_pick" (spDr K P__law_pick) []) (c__law_take : C8.Cal P w K mg base 2 "_law_take" (spDr K P__law_take) [])  : FnOk P w K mg base CX0 4 f fd ["_law_draw"] (spDr K P__law_steady_rows) := by
  have sc := sc__law_steady_rows
  refine fnDr F sc (fun ns k ds d k' h => by cases h; rfl) fun cdv A outer s H E hr => ⟨_,
    (pss_cons (ps_set (i := 1) sc.nd rfl (Or.inl rfl) (pe_lst (pa_cons (pe_tup (pa_cons pe_str pa_nil)) (pa_cons (pe_tup (pa_cons pe_str pa_nil)) (pa_cons (pe_tup (pa_cons pe_str (pa_cons pe_str pa_nil))) (pa_cons (pe_tup (pa_cons pe_str pa_nil)) (pa_cons (pe_tup (pa_cons pe_str (pa_cons pe_str (pa_cons pe_str pa_nil)))) (pa_cons (pe_tup (pa_cons pe_str (pa_cons pe_str (pa_cons pe_str pa_nil)))) (pa_cons (pe_tup (pa_cons pe_str (pa_cons pe_str pa_nil))) (pa_cons (pe_tup (pa_cons pe_str (pa_cons pe_str pa_nil))) pa_nil))))))))))
      (pss_cons (ps_set (i := 2) sc.nd rfl (Or.inl rfl) (pe_lst pa_nil))
      (pss_cons (ps_for PassesOwn.never rfl (pi_range1 rfl T.n_range (pa_cons (pe_op op_add pe_int (C8.pe_c c__law_take hr (by decide) rfl (pa_cons (pv 0) (pa_cons pe_int pa_nil)))) pa_nil)) (pg_name (i := 3) sc.nd rfl (Or.inl rfl))
      (pss_cons (ps_set (i := 4) sc.nd rfl (Or.inl rfl) (C8.pe_c c__law_pick hr (by decide) rfl (pa_cons (pv 0) (pa_cons (pe_lst (pa_cons (pe_tup pa_nil) (pa_cons (pe_tup (pa_cons (pe_tup (pa_cons pe_str (pa_cons pe_str pa_nil))) pa_nil)) (pa_cons (pe_tup (pa_cons (pe_tup (pa_cons pe_str (pa_cons pe_str pa_nil))) pa_nil)) (pa_cons (pe_tup (pa_cons (pe_tup (pa_cons pe_str (pa_cons pe_str pa_nil))) (pa_cons (pe_tup (pa_cons pe_str (pa_cons pe_str pa_nil))) pa_nil))) pa_nil))))) pa_nil))))
      (pss_cons (ps_set (i := 5) sc.nd rfl (Or.inl rfl) (C8.pe_c c__law_pick hr (by decide) rfl (pa_cons (pv 0) (pa_cons (pe_lst (pa_cons (pe_tup pa_nil) (pa_cons (pe_tup (pa_cons (pe_tup (pa_cons pe_str (pa_cons pe_str pa_nil))) pa_nil)) (pa_cons (pe_tup (pa_cons (pe_tup (pa_cons pe_str (pa_cons pe_str pa_nil))) pa_nil)) pa_nil)))) pa_nil))))
      (pss_one (ps_expr (pe_bm PySem.F.plainAttrs_list PySem.F.slot_list_append PySem.F.type_list_append mt_append (pv 2) (pa_cons (pe_tup (pa_cons (pv 4) (pa_cons (pe_callTy (call_tupleK K) (by rfl) T.n_tuple (by decide +kernel) (pa_cons (pe_lc (own := [("_law_kind", 6)]) (g := (gName 6)) (tt := tYes) rfl sc.nd (pi_tupK K (C8.pe_c c__law_pick hr (by decide) rfl (pa_cons (pv 0) (pa_cons (pv 1) pa_nil)))) (blkOk_by (N := ["_law_draw", "_law_groups", "_law_found", "_law_at", "_law_before", "_law_after", "_law_kind"]) (sc := defScope s__law_steady_rows) (by decide +kernel)) (fun _ _ _ _ _ => (pg_name (i := 6) sc.nd rfl (Or.inl rfl))) (fun _ _ _ _ _ => pts_nil) (fun _ _ _ _ _ => (pe_tup (pa_cons (pv 6) (pa_cons pe_str pa_nil))))) pa_nil)) (pa_cons (pv 5) pa_nil)))) pa_nil)))))))
      (pss_one (ps_ret (pe_callTy (call_tupleK K) (by rfl) T.n_tuple (by decide +kernel) (pa_cons (pv 2) pa_nil))))))), fun a ns k ds d k' h => ?_⟩
  obtain ⟨⟩ := h
  refine sq_asg (d := .lst (groupL.map gD)) (rd_eq (rd_lst (ra_cons (rd_tup (ra_one rd_str) (le5 rfl)) (ra_cons (rd_tup (ra_one rd_str) (le5 rfl)) (ra_cons (rd_tup (ra_cons rd_str (ra_one rd_str)) (le5 rfl)) (ra_cons (rd_tup (ra_one rd_str) (le5 rfl)) (ra_cons (rd_tup (ra_cons rd_str (ra_cons rd_str (ra_one rd_str))) (le5 rfl)) (ra_cons (rd_tup (ra_cons rd_str (ra_cons rd_str (ra_one rd_str))) (le5 rfl)) (ra_cons (rd_tup (ra_cons rd_str (ra_one rd_str)) (le5 rfl)) (ra_one (rd_tup (ra_cons rd_str (ra_one rd_str)) (le5 rfl))))))))))  (le5 rfl)) rfl) ?_
  refine sq_newL fun p => ?_
  refine sqm_forM (xs := List.range (lawCnt ns k)) (enc := nD) (wm_rng1 (ram_one (rm_eq (rm_op (rm_rd rd_int) (rm_dr rfl (ra_one (rd_eq (e := nD 3) rd_int rfl)) (.mk 3 (by decide))) od_i) ?_)) ?_) (fun i δ1 => ∃ s3 s4 s5, δ1 = [.ownL a [.scr ns, nD (k + 1 + 3 * i)], .dat (.lst (groupL.map gD)), .ownL p (((List.range (lawCnt ns k)).take i).map fun j => rowD (lawRow ns (k + 1 + 3 * j))), s3, s4, s5, .no]) ⟨_, _, _, rfl⟩ ?_ ?_
  · show D.int (1 + ((lawTake ns (k + 1) 3 : Nat) : Int)) = D.int ((lawCnt ns k : Nat) : Int)
    congr 1
  · have := (lawCnt_le ns k).2
    omega
  · rintro i x δ1 hi ⟨s3, s4, s5, rfl⟩
    have hx := rowsTake hi
    subst hx
    refine ⟨_, _, gd_name, ?_⟩
    refine sqm_asg (rm_dr rfl (ra_one (rd_eq (e := .lst (beforeL.map wD)) (rd_lst (ra_cons (rd_tup ra_nil (le5 rfl)) (ra_cons (rd_tup (ra_one (rd_tup (ra_cons rd_str (ra_one rd_str)) (le5 rfl))) (le5 rfl)) (ra_cons (rd_tup (ra_one (rd_tup (ra_cons rd_str (ra_one rd_str)) (le5 rfl))) (le5 rfl)) (ra_one (rd_tup (ra_cons (rd_tup (ra_cons rd_str (ra_one rd_str)) (le5 rfl)) (ra_one (rd_tup (ra_cons rd_str (ra_one rd_str)) (le5 rfl)))) (le5 rfl)))))) (le5 rfl)) rfl)) (.mk (beforeL.map wD) (by decide) (wD (lawRow ns (k + 1 + 3 * x)).b) (getD_map (α := Nat) (lawTake_lt (by decide))))) ?_
    refine sqm_asg (rm_dr rfl (ra_one (rd_eq (e := .lst (afterL.map wD)) (rd_lst (ra_cons (rd_tup ra_nil (le5 rfl)) (ra_cons (rd_tup (ra_one (rd_tup (ra_cons rd_str (ra_one rd_str)) (le5 rfl))) (le5 rfl)) (ra_one (rd_tup (ra_one (rd_tup (ra_cons rd_str (ra_one rd_str)) (le5 rfl))) (le5 rfl))))) (le5 rfl)) rfl)) (.mk (afterL.map wD) (by decide) (wD (lawRow ns (k + 1 + 3 * x)).a) (getD_map (α := Nat) (lawTake_lt (by decide))))) ?_
    have hgl : (lawRow ns (k + 1 + 3 * x)).g.length ≤ 3 := (group_all _ (law_g ns _)).2.1
    refine sdm_app (d := rowD (lawRow ns (k + 1 + 3 * x))) rfl rfl (rm_tup (ram_cons (rm_rd (rd_var rfl)) (ram_cons (rm_eq (e := wD (lawRow ns (k + 1 + 3 * x)).g) (rm_cb (ram_one (rm_lcM (xs := (lawRow ns (k + 1 + 3 * x)).g) (enc := fun k => .str k.str) (f := cellD) (wm_tup (rm_dr rfl (ra_one (rd_var rfl)) (.mk (groupL.map gD) (by decide) (gD (lawRow ns (k + 1 + 3 * x)).g) (getD_map (α := Nat) (lawTake_lt (by decide)))))) (by omega) fun kk _ => ⟨_, _, gd_name, by decide, rd_tup (ra_cons (rd_var rfl) (ra_one rd_str)) (le5 rfl)⟩)) cd_tupleL) rfl) (ram_one (rm_rd (rd_var rfl))))) (le5 rfl)) ?_ ⟨.dat (nD x), .dat (wD (lawRow ns (k + 1 + 3 * x)).b), .dat (wD (lawRow ns (k + 1 + 3 * x)).a), ?_⟩
    · rw [List.length_map, List.length_take, List.length_range]
      have := (lawCnt_le ns k).2
      omega
    · rw [takeN hi, List.map_append]
      show [Sl.ownL a [.scr ns, nD (k + 1 + 3 * x + 1 + 1 + 1)], _, _, _, _, _, _] = _
      rw [show k + 1 + 3 * x + 1 + 1 + 1 = k + 1 + 3 * (x + 1) by omega]
      rfl
  · rintro δ1 ⟨s3, s4, s5, rfl⟩
    rw [List.length_range, List.take_of_length_le (by rw [List.length_range]; exact Nat.le_refl _)]
    refine sd_frzL (i := 2) rfl (sd_ret (rd_cb (ra_one (rd_var rfl)) cd_tupleL) ⟨?_, rfl⟩)
    show D.tup _ = D.tup _
    unfold lawRows
    rw [List.map_map]
    rfl
theorem bk_law : BlkOk ["_law_script", "_law_draw", "_law_rows", "_law_way", "_law_one", "_law_two", "_law_first", "_law_second", "_law_both", "_law_others", "_law_kinds_here", "_law_fits", "_law_loops", "_law_least", "_law_places", "_law_twice", "_law_due", "_law_row", "_law_word", "_law_place"]
    { kind := .function, names := [(".0", .local), ("_law_loops", .cell), ("all", .globalImplicit), ("_law_kinds_here", .cell), ("_law_rows", .cell)], isGenerator := false, isCoroutine := false }
    { kind := .function, names := [(".0", .local), ("_law_row", .local), ("_law_turns", .globalImplicit), ("_law_kinds_here", .free), ("_law_loops", .free)], isGenerator := false, isCoroutine := false } [("_law_row", 17)] := blkOk_by (by decide +kernel)
abbrev s_law : Stmt := topS 78
theorem sc_law : FnScope ["_law_script", "_law_draw", "_law_rows", "_law_way", "_law_one", "_law_two", "_law_first", "_law_second", "_law_both", "_law_others", "_law_kinds_here", "_law_fits", "_law_loops", "_law_least", "_law_places", "_law_twice", "_law_due", "_law_row", "_law_word", "_law_place"] ["_law_script"] (defScope s_law) := ⟨rfl, rfl, rfl, by decide +kernel, rfl, by decide +kernel, by decide +kernel⟩
theorem ok_law {f : Addr} {fd : FuncData} (F : Fun K "law" "law" s_law f fd) (T : Txt K w mg kd CS CR CP) (m_Sizes___and__ : C8.Met P w K mg base 5 CS "__and__" (spF K (P_Sizes___and__ CS)) []) (m_Sizes___contains__ : C8.Met P w K mg base 2 CS "__contains__" (spF K (P_Sizes___contains__ CS)) []) (m_Sizes___eq__ : C8.Met P w K mg base 1 CS "__eq__" (spF K (P_Sizes___eq__ CS)) []) (m_Sizes_within : C8.Met P w K mg base 6 CS "within" (spF K (P_Sizes_within CS)) []) (c__law_kinds : C8.Cal P w K mg base 1 "_law_kinds" (spF K (P__law_kinds)) []) (c__law_other_hand : C8.Cal P w K mg base 1 "_law_other_hand" (spF K (P__law_other_hand)) []) (c__law_pick : C8.Cal P w K mg base 3 "_law_pick" (spDr K P__law_pick) []) (c__law_steady_rows : C8.Cal P w K mg base 4 "_law_steady_rows" (spDr K P__law_steady_rows) []) (c__law_take : C8.Cal P w K mg base 2 "_law_take" (spDr K P__law_take) []) (c__law_turns : C8.Cal P w K mg base 2 "_law_turns" (spF K (P__law_turns)) []) (c_back_after : C8.Cal P w K mg base 8 "back_after" (spF K (P_back_after)) []) (c_sent : C8.Cal P w K mg base 7 "sent" (spF K (P_sent)) []) (c_where_back : C8.Cal P w K mg base 9 "where_back" (spF K (P_where_back CS)) []) (mWB : ∀ (rows : List Rw) (m : Nat) (b : Bool), WbOk rows m b → ∀ n, (whereBack rows m b).mem n = (decide (∀ r ∈ rows, r.fits n) && isBack (sentRound (roundOf rows b) n) m)) (mBI : ∀ (p : List Nat) (n m : Nat), p.Perm (List.range n) → (0 < lcmL (cycles p) ∧ (isBack p m = decide (m % lcmL (cycles p) = 0)))) : FnOk P w K mg base CX0 10 f fd ["_law_script"] (spF K (P_law)) := by
  have sc := sc_law
  refine fnD F sc (fun ds d h => by cases h; rfl) fun cdv A outer s H E hr => ⟨_,
    (pss_cons (ps_set (i := 1) sc.nd rfl (Or.inl rfl) (pe_lst (pa_cons (pv 0) (pa_cons pe_int pa_nil))))
      (pss_cons (ps_asg (pe_tup (pa_cons (C8.pe_c c__law_steady_rows hr (by decide) rfl (pa_cons (pv 1) pa_nil)) (pa_cons (C8.pe_c c__law_pick hr (by decide) rfl (pa_cons (pv 1) (pa_cons (pe_lst (pa_cons pe_str (pa_cons pe_str pa_nil))) pa_nil))) pa_nil))) (pg_tup rfl (pgs_cons (pg_name (i := 2) sc.nd rfl (Or.inr rfl)) (pgs_cons (pg_name (i := 3) sc.nd rfl (Or.inl rfl)) pgs_nil))))
      (pss_cons (ps_par (i := 4) (j := 5) rfl sc.nd rfl rfl (by decide) rfl rfl (pa_cons (pe_op op_add pe_int (C8.pe_c c__law_take hr (by decide) rfl (pa_cons (pv 1) (pa_cons pe_int pa_nil)))) (pa_cons (pe_op op_add pe_int (C8.pe_c c__law_take hr (by decide) rfl (pa_cons (pv 1) (pa_cons pe_int pa_nil)))) pa_nil)) rfl)
      (pss_cons (ps_par3 (i := 6) (j := 7) (l := 8) rfl sc.nd rfl rfl rfl (by decide) (by decide) (by decide) rfl rfl rfl (pa_cons (C8.pe_c c_where_back hr (by decide) rfl (pa_cons (pv 2) (pa_cons (pv 4) (pa_cons (pv 3) pa_nil)))) (pa_cons (C8.pe_c c_where_back hr (by decide) rfl (pa_cons (pv 2) (pa_cons (pv 5) (pa_cons (pv 3) pa_nil)))) (pa_cons (C8.pe_c c_where_back hr (by decide) rfl (pa_cons (pv 2) (pa_cons (pe_op op_add (pv 4) (pv 5)) (pa_cons (pv 3) pa_nil)))) pa_nil))) rfl)
      (pss_cons (ps_if (PW.pt (pw_or (pt_not (pt_val (C8.pe_mt m_Sizes_within hr (by decide) (pe_op (op_ownM (op := .BitAnd) m_Sizes___and__ T.selfS hr (by decide)) (pv 6) (pv 7)) (pa_cons (pv 8) pa_nil)))) (pw_or (pt_not (pt_val (C8.pe_mt m_Sizes_within hr (by decide) (pe_op (op_ownM (op := .BitAnd) m_Sizes___and__ T.selfS hr (by decide)) (pv 6) (pv 8)) (pa_cons (pv 7) pa_nil)))) (pw_or1 (pt_not (pt_val (C8.pe_mt m_Sizes_within hr (by decide) (pv 6) (pa_cons (C8.pe_c c_where_back hr (by decide) rfl (pa_cons (pv 2) (pa_cons (pe_op op_mul pe_int (pv 4)) (pa_cons (pv 3) pa_nil)))) pa_nil)))))))) (pss_one (ps_ret pe_bl)) pss_nil)
      (pss_cons (ps_set (i := 9) sc.nd rfl (Or.inl rfl) (pe_callTy (call_tupleK K) (by rfl) T.n_tuple (by decide +kernel) (pa_cons (pe_lc (own := [("_law_row", 17)]) (g := (gName 17)) (tt := tYes) rfl sc.nd (pi_tupK K (pv 2)) (blkOk_by (N := ["_law_script", "_law_draw", "_law_rows", "_law_way", "_law_one", "_law_two", "_law_first", "_law_second", "_law_both", "_law_others", "_law_kinds_here", "_law_fits", "_law_loops", "_law_least", "_law_places", "_law_twice", "_law_due", "_law_row", "_law_word", "_law_place"]) (sc := defScope s_law) (by decide +kernel)) (fun _ _ _ _ _ => (pg_name (i := 17) sc.nd rfl (Or.inl rfl))) (fun _ _ _ _ _ => pts_nil) (fun _ _ _ _ _ => (pe_callTy (call_tupleK K) (by rfl) T.n_tuple (by decide +kernel) (pa_cons (pe_lc (own := [("_law_word", 18)]) (g := (gName 18)) (tt := tYes) rfl sc.nd (pi_tupK K (pv 17)) (blkOk_by (N := ["_law_script", "_law_draw", "_law_rows", "_law_way", "_law_one", "_law_two", "_law_first", "_law_second", "_law_both", "_law_others", "_law_kinds_here", "_law_fits", "_law_loops", "_law_least", "_law_places", "_law_twice", "_law_due", "_law_row", "_law_word", "_law_place"]) (sc := { kind := .function, names := [(".0", .local), ("_law_row", .local), ("tuple", .globalImplicit)], isGenerator := false, isCoroutine := false }) (by decide +kernel)) (fun _ _ _ _ _ => (pg_name (i := 18) sc.nd rfl (Or.inl rfl))) (fun _ _ _ _ _ => pts_nil) (fun _ _ _ _ _ => (C8.pe_c c__law_other_hand hr (by decide) rfl (pa_cons (pv 18) pa_nil)))) pa_nil)))) pa_nil)))
      (pss_cons (ps_if (pt_cmpR (op_ownNeM m_Sizes___eq__ T.neS T.subS hr (by decide)) (C8.pe_c c_where_back hr (by decide) rfl (pa_cons (pv 9) (pa_cons (pv 4) (pa_cons (pv 3) pa_nil)))) (pv 6) (by first | exact nomark _ | rfl)) (pss_one (ps_ret pe_bl)) pss_nil)
      (pss_cons (ps_set (i := 10) sc.nd rfl (Or.inr rfl) (pe_c0 c__law_kinds hr (by decide) rfl))
      (pss_cons (ps_setLc (i := 11) (own := [("_law_loops", 12)]) (g := (gName 12)) (tt := tB (tCB (rAll K) (tCons (tLc (iTup K (tVar 2)) (gName 17) tYes (tOp (fun x y H Q => y = .non ∧ Q (.bl (!decide (x = .non))) H) (tCall (spF K P__law_turns) [] E0 (tCons (tVar 17) (tCons (tVar 12) (tCons (tVar 10) tNil)))) (tC .non)) [17]) tNil))) rfl sc.nd rfl rfl (sw_true rfl rfl rfl (by decide +kernel)) (pi_range2 rfl T.n_range (pa_cons pe_int (pa_cons pe_int pa_nil))) (blkOk_by (N := ["_law_script", "_law_draw", "_law_rows", "_law_way", "_law_one", "_law_two", "_law_first", "_law_second", "_law_both", "_law_others", "_law_kinds_here", "_law_fits", "_law_loops", "_law_least", "_law_places", "_law_twice", "_law_due", "_law_row", "_law_word", "_law_place"]) (sc := defScope s_law) (by decide +kernel)) (fun _ _ _ _ _ => (pg_name (i := 12) sc.nd rfl (Or.inr rfl))) (fun _ _ _ _ _ => pts_one (pt_val (pe_callB (cr_allK K rfl) (by rfl) T.n_all (by decide +kernel) (pa_cons (pe_lc (own := [("_law_row", 17)]) (g := (gName 17)) (tt := tYes) rfl sc.nd (pi_tupK K (pv 2)) bk_law (fun _ _ _ _ _ => (pg_name (i := 17) sc.nd rfl (Or.inl rfl))) (fun _ _ _ _ _ => pts_nil) (fun _ _ _ _ _ => (pe_cmpR op_notN (C8.pe_c c__law_turns hr (by decide) rfl (pa_cons (pv 17) (pa_cons (pv 12) (pa_cons (pv 10) pa_nil)))) pe_non (by first | exact nomark _ | rfl)))) pa_nil)))) (fun _ _ _ _ _ => (pv 12)))
      (pss_cons (ps_for PassesOwn.never rfl (pi_listK K (pe_slice sl_list (pe_stepL (pv 11) (po_some (C8.pe_c c__law_take hr (by decide) rfl (pa_cons (pv 1) (pa_cons pe_int pa_nil)))) po_none (po_some (pe_op op_add pe_int (C8.pe_c c__law_take hr (by decide) rfl (pa_cons (pv 1) (pa_cons pe_int pa_nil)))))) po_none (po_some pe_int))) (pg_name (i := 12) sc.nd rfl (Or.inl rfl))
      (pss_cons (ps_asg (pe_tup (pa_cons (C8.pe_c c_back_after hr (by decide) rfl (pa_cons (pv 2) (pa_cons (pv 12) (pa_cons (pv 3) pa_nil)))) (pa_cons (C8.pe_c c_sent hr (by decide) rfl (pa_cons (pv 2) (pa_cons (pv 12) (pa_cons (pv 3) pa_nil)))) pa_nil))) (pg_tup rfl (pgs_cons (pg_name (i := 13) sc.nd rfl (Or.inl rfl)) (pgs_cons (pg_name (i := 14) sc.nd rfl (Or.inr rfl)) pgs_nil))))
      (pss_cons (ps_if (PW.pt (pw_or (pt_cmpR op_ne (pe_cmpR (op_ownInM m_Sizes___contains__ hr (by decide)) (pv 12) (pv 6) (by first | exact nomark _ | rfl)) (pe_cmpR op_eq (pe_op op_mod (pe_callTy call_int1 (by rfl) T.n_int (by decide +kernel) (pa_cons (pv 4) pa_nil)) (pv 13)) pe_int (by first | exact nomark _ | rfl)) (by first | exact nomark _ | rfl)) (pw_or1 (pt_cmpR op_ne (pe_cmpR (op_ownInM m_Sizes___contains__ hr (by decide)) (pv 12) (pv 8) (by first | exact nomark _ | rfl)) (pe_cmpR op_eq (pe_op op_mod (pe_callTy call_int1 (by rfl) T.n_int (by decide +kernel) (pa_cons (pe_op op_add (pv 4) (pv 5)) pa_nil)) (pv 13)) pe_int (by first | exact nomark _ | rfl)) (by first | exact nomark _ | rfl))))) (pss_one (ps_ret pe_bl)) pss_nil)
      (pss_cons (ps_if (PW.pt (pw_or (pt_cmpR (op_neDK K hr.units) (pe_callB cr_sortedI (by rfl) T.n_sorted (by decide +kernel) (pa_cons (pv 14) pa_nil)) (pe_listRg rfl (by rfl) T.n_list (prg_1 (by rfl) T.n_range (pv 12))) (by first | exact nomark _ | rfl)) (pw_or1 (pt_cmpR (op_neDK K hr.units) (C8.pe_c c_sent hr (by decide) rfl (pa_cons (pv 9) (pa_cons (pv 12) (pa_cons (pv 3) pa_nil)))) (pv 14) (by first | exact nomark _ | rfl))))) (pss_one (ps_ret pe_bl)) pss_nil)
      (pss_cons (ps_set (i := 15) sc.nd rfl (Or.inl rfl) (C8.pe_c c_sent hr (by decide) rfl (pa_cons (pe_op op_catA (pv 2) (pv 2)) (pa_cons (pv 12) (pa_cons (pv 3) pa_nil)))))
      (pss_cons (ps_set (i := 16) sc.nd rfl (Or.inl rfl) (pe_ifExp (PW.pt (pw_or (pt_cmpR op_eq (pv 3) pe_str (by first | exact nomark _ | rfl)) (pw_or1 (pt_cmpR op_eq (pe_op op_mod (pe_callTy call_int1 (by rfl) T.n_int (by decide +kernel) (pa_cons (pe_callB call_len_seq (by rfl) T.n_len PySem.boot_len (pa_cons (pv 2) pa_nil)) pa_nil)) pe_int) pe_int (by first | exact nomark _ | rfl))))) (pe_lc (own := [("_law_place", 19)]) (g := (gName 19)) (tt := tYes) rfl sc.nd (pi_listK K (pv 14)) (blkOk_by (N := ["_law_script", "_law_draw", "_law_rows", "_law_way", "_law_one", "_law_two", "_law_first", "_law_second", "_law_both", "_law_others", "_law_kinds_here", "_law_fits", "_law_loops", "_law_least", "_law_places", "_law_twice", "_law_due", "_law_row", "_law_word", "_law_place"]) (sc := defScope s_law) (by decide +kernel)) (fun _ _ _ _ _ => (pg_name (i := 19) sc.nd rfl (Or.inl rfl))) (fun _ _ _ _ _ => pts_nil) (fun _ _ _ _ _ => (pe_ix (ix_listK K) (pv 14) (pv 19) (fun _ _ => rfl)))) (pv 14)))
      (pss_one (ps_if (pt_cmpR (op_neDK K hr.units) (pv 15) (pv 16) (by first | exact nomark _ | rfl)) (pss_one (ps_ret pe_bl)) pss_nil))))))))
      (pss_one (ps_ret pe_bl)))))))))))), fun ds d h => ?_⟩
  obtain ⟨ns⟩ := h
  refine sq_newLs (ra_cons (rd_var rfl) (ra_one (rd_eq (e := nD 0) rd_int rfl))) (by exact Nat.le_of_ble_eq_true rfl) (by exact Nat.le_of_ble_eq_true rfl) fun p => ?_
  refine sd_norm (δ' := [.dat (.scr ns), .ownL p [.scr ns, nD 0], .no, .no, .no, .no, .no, .no, .no, .no, .no, .no, .no, .no, .no, .no, .no, .no, .no, .no]) rfl ?_
  have hro := lawRows_ok ns 0
  have hlen : (lawRows ns 0).length ≤ 3 := by
    rw [lawRows_len]
    exact (lawCnt_le ns 0).2
  have hway : ∀ k1 : Nat, ([D.str "round", D.str "flat"] : List D)[lawTake ns (k1 + 1) 2]? = some (.str (wayS (decide (lawTake ns (k1 + 1) 2 = 0)))) := fun k1 => by
    have := lawTake_lt (ns := ns) (k := k1 + 1) (m := 2) (by decide)
    rcases (show lawTake ns (k1 + 1) 2 = 0 ∨ lawTake ns (k1 + 1) 2 = 1 by omega) with e | e <;> rw [e] <;> rfl
  refine sqm_asgG (rm_tup (ram_cons (rm_dr rfl ra_nil (.mk)) (ram_one (rm_dr rfl (ra_one (rd_lst (ra_cons rd_str (ra_one rd_str)) (le5 rfl))) (.mk [.str "round", .str "flat"] (by exact Nat.le_of_ble_eq_true rfl) _ (hway _))))) (le5 rfl)) gd_tup2 ?_
  refine sd_norm (δ' := [.dat (.scr ns), .ownL p [.scr ns, nD (0 + 1 + 3 * lawCnt ns 0 + 1)], .dat (rowsD (lawRows ns 0)), .dat (.str (wayS (decide (lawTake ns (0 + 1 + 3 * lawCnt ns 0 + 1) 2 = 0)))), .no, .no, .no, .no, .no, .no, .no, .no, .no, .no, .no, .no, .no, .no, .no, .no]) rfl ?_
  generalize lawRows ns 0 = rows at hro hlen ⊢
  generalize 0 + 1 + 3 * lawCnt ns 0 = k1
  generalize decide (lawTake ns (k1 + 1) 2 = 0) = b
  have ho1 : 1 ≤ 1 + lawTake ns (k1 + 2) 2 ∧ 1 + lawTake ns (k1 + 2) 2 ≤ 2 := by
    have := lawTake_lt (ns := ns) (k := k1 + 2) (m := 2) (by decide)
    omega
  have ho2 : 1 ≤ 1 + lawTake ns (k1 + 3) 2 ∧ 1 + lawTake ns (k1 + 3) 2 ≤ 2 := by
    have := lawTake_lt (ns := ns) (k := k1 + 3) (m := 2) (by decide)
    omega
  refine sqm_par (a := nD (1 + lawTake ns (k1 + 2) 2)) (b := nD (1 + lawTake ns (k1 + 3) 2)) (ram_cons (rm_eq (rm_op (rm_rd rd_int) (rm_dr rfl (ra_one (rd_eq (e := nD 2) rd_int rfl)) (.mk 2 (by decide))) od_i) ?_) (ram_one (rm_eq (rm_op (rm_rd rd_int) (rm_dr rfl (ra_one (rd_eq (e := nD 2) rd_int rfl)) (.mk 2 (by decide))) od_i) ?_))) ?_
  · show D.int (1 + ((lawTake ns (k1 + 2) 2 : Nat) : Int)) = D.int ((1 + lawTake ns (k1 + 2) 2 : Nat) : Int)
    congr 1
  · show D.int (1 + ((lawTake ns (k1 + 3) 2 : Nat) : Int)) = D.int ((1 + lawTake ns (k1 + 3) 2 : Nat) : Int)
    congr 1
  generalize 1 + lawTake ns (k1 + 2) 2 = one at ho1 ⊢
  generalize 1 + lawTake ns (k1 + 3) 2 = two at ho2 ⊢
  refine sd_norm (δ' := [.dat (.scr ns), .ownL p [.scr ns, nD (k1 + 1 + 1 + 1)], .dat (rowsD rows), .dat (.str (wayS b)), .dat (nD one), .dat (nD two), .no, .no, .no, .no, .no, .no, .no, .no, .no, .no, .no, .no, .no, .no]) rfl ?_
  have wb : ∀ m, 1 ≤ m → m ≤ 4 → WbOk rows m b := fun m h1 h2 => wbOk_of hro hlen h1 h2
  have w1 := wb one (by omega) (by omega)
  have w2 := wb two (by omega) (by omega)
  have w3 := wb (one + two) (by omega) (by omega)
  have w4 := wb (2 * one) (by omega) (by omega)
  have b1 := whereBack_B w1
  have b2 := whereBack_B w2
  have b3 := whereBack_B w3
  have b4 := whereBack_B w4
  refine sq_par3 (ra_cons (rd_wb (rd_var rfl) (rd_var rfl) (rd_var rfl) w1) (ra_cons (rd_wb (rd_var rfl) (rd_var rfl) (rd_var rfl) w2) (ra_one (rd_wb (rd_var rfl) (rd_eq (e := nD (one + two)) (rd_op (rd_var rfl) (rd_var rfl) od_i) rfl) (rd_var rfl) w3)))) ?_
  refine sd_norm (δ' := [.dat (.scr ns), .ownL p [.scr ns, nD (k1 + 1 + 1 + 1)], .dat (rowsD rows), .dat (.str (wayS b)), .dat (nD one), .dat (nD two), .dat (szD CS (whereBack rows one b)), .dat (szD CS (whereBack rows two b)), .dat (szD CS (whereBack rows (one + two) b)), .no, .no, .no, .no, .no, .no, .no, .no, .no, .no, .no]) rfl ?_
  have hp : ∀ n, (∀ r ∈ rows, r.fits n) → (sentRound (roundOf rows b) n).Perm (List.range n) := fun n hf => sentRound_perm (fitAll_round hro hf)
  have m1 := mWB rows one b w1
  have m2 := mWB rows two b w2
  have m3 := mWB rows (one + two) b w3
  have m4 := mWB rows (2 * one) b w4
  have in1 : within (sAnd (whereBack rows one b) (whereBack rows two b)) (whereBack rows (one + two) b) = true := by
    refine (within_iff (s := 136) (f := sAnd (whereBack rows one b) (whereBack rows two b)) (setForm_B b1 b2 (by decide)) b3 (by decide)).mpr fun n hn => ?_
    rw [mem_and b1.wf.p0 b2.wf.p0, m1, m2, Bool.and_eq_true, Bool.and_eq_true, Bool.and_eq_true, decide_eq_true_eq] at hn
    obtain ⟨⟨h1, h2⟩, _, h3⟩ := hn
    rw [m3, decide_eq_true h1, Bool.true_and, back_add (hp n h1) h2]
    exact h3
  have in2 : within (sAnd (whereBack rows one b) (whereBack rows (one + two) b)) (whereBack rows two b) = true := by
    refine (within_iff (s := 136) (f := sAnd (whereBack rows one b) (whereBack rows (one + two) b)) (setForm_B b1 b3 (by decide)) b2 (by decide)).mpr fun n hn => ?_
    rw [mem_and b1.wf.p0 b3.wf.p0, m1, m3, Bool.and_eq_true, Bool.and_eq_true, Bool.and_eq_true, decide_eq_true_eq] at hn
    obtain ⟨⟨h1, h2⟩, _, h3⟩ := hn
    rw [m2, decide_eq_true h1, Bool.true_and, ← back_add (hp n h1) h2]
    exact h3
  have in3 : within (whereBack rows one b) (whereBack rows (2 * one) b) = true := by
    refine (within_iff (s := 136) b1 b4 (by decide)).mpr fun n hn => ?_
    rw [m1, Bool.and_eq_true, decide_eq_true_eq] at hn
    obtain ⟨h1, h2⟩ := hn
    rw [m4, decide_eq_true h1, Bool.true_and, Nat.two_mul, back_add (hp n h1) h2]
    exact h2
  have s12 := B_sok b1 b2 (by decide)
  have s13 := B_sok b1 b3 (by decide)
  have s14 := B_sok b1 b4 (by decide)
  have sa1 : SOk (sAnd (whereBack rows one b) (whereBack rows two b)) (whereBack rows (one + two) b) := B_sok (s := 136) (setForm_B b1 b2 (by decide)) b3 (by decide)
  have sa2 : SOk (sAnd (whereBack rows one b) (whereBack rows (one + two) b)) (whereBack rows two b) := B_sok (s := 136) (setForm_B b1 b3 (by decide)) b2 (by decide)
  refine sq_no (rt_eq (rt_or (rt_not (rt_B (rd_within (rd_sAnd (rd_var rfl) (rd_var rfl) s12) (rd_var rfl) sa1))) fun _ => rt_or (rt_not (rt_B (rd_within (rd_sAnd (rd_var rfl) (rd_var rfl) s13) (rd_var rfl) sa2))) fun _ => rt_not (rt_B (rd_within (rd_var rfl) (rd_wb (rd_var rfl) (rd_eq (e := nD (2 * one)) (rd_op rd_int (rd_var rfl) (od_C ?_)) rfl) (rd_var rfl) w4) s14))) ?_) ?_
  · unfold CMul
    omega
  · rw [in1, in2, in3]
    rfl
  have hwl : ∀ r ∈ rows, ∀ x ∈ [r.b, r.g, r.a], x.length ≤ 9999 := fun r hr x hx => by
    have h := hro.ok r hr
    have h1 := h.lb
    have h2 := h.lg
    have h3 := h.la
    simp only [List.mem_cons, List.not_mem_nil, or_false] at hx
    rcases hx with h | h | h <;> subst h <;> omega
  refine sq_asg (rd_eq (e := rowsD (rows.map Rw.oh)) (rd_cb (ra_one (rd_lcM (l := rows) (enc := rowD) (f := fun r => rowD r.oh) (wi_tup (rd_var rfl)) (by omega) fun r hr2 => ⟨_, _, gd_name, by decide, rd_eq (rd_cb (ra_one (rd_lcM (l := [r.b, r.g, r.a]) (enc := wD) (f := fun w => wD (w.map Kd.oh)) (wi_tup (rd_var rfl)) (by exact Nat.le_of_ble_eq_true rfl) fun x hx => ⟨_, _, gd_name, by decide, rd_call (ra_one (rd_var rfl)) (.mk x (hwl r hr2 x hx))⟩)) cd_tupleL) rfl⟩)) cd_tupleL) ?_) ?_
  · show D.tup _ = D.tup _
    rw [List.map_map]
    rfl
  refine sd_norm (δ' := [.dat (.scr ns), .ownL p [.scr ns, nD (k1 + 1 + 1 + 1)], .dat (rowsD rows), .dat (.str (wayS b)), .dat (nD one), .dat (nD two), .dat (szD CS (whereBack rows one b)), .dat (szD CS (whereBack rows two b)), .dat (szD CS (whereBack rows (one + two) b)), .dat (rowsD (rows.map Rw.oh)), .no, .no, .no, .no, .no, .no, .no, .no, .no, .no]) rfl ?_
  have hoo := oh_rowsOk hro
  have wo : WbOk (rows.map Rw.oh) one b := wbOk_of hoo (by rw [List.length_map]; exact hlen) (by omega) (by omega)
  have eo := whereBack_like (likeL_oh rows) one b
  refine sq_no (rt_eq (rt_test (rd_neS (rd_wb (rd_var rfl) (rd_var rfl) (rd_var rfl) wo) (rd_var rfl))) ?_) ?_
  · rw [eo, decide_eq_true rfl]
    rfl
  refine sq_asg (rd_call ra_nil .mk) ?_
  refine sd_norm (δ' := [.dat (.scr ns), .ownL p [.scr ns, nD (k1 + 1 + 1 + 1)], .dat (rowsD rows), .dat (.str (wayS b)), .dat (nD one), .dat (nD two), .dat (szD CS (whereBack rows one b)), .dat (szD CS (whereBack rows two b)), .dat (szD CS (whereBack rows (one + two) b)), .dat (rowsD (rows.map Rw.oh)), .dat (.dic lawKD), .no, .no, .no, .no, .no, .no, .no, .no, .no]) rfl ?_
  have hfit : ∀ i ∈ (List.range 30).filter (fun i => decide (∀ r ∈ rows, r.fits (i + 1))), i < 30 ∧ ∀ r ∈ rows, r.fits (i + 1) := fun i hi => by
    obtain ⟨h1, h2⟩ := List.mem_filter.mp hi
    exact ⟨List.mem_range.mp h1, of_decide_eq_true h2⟩
  refine sq_asg (rd_eq (e := nsL (((List.range 30).filter fun i => decide (∀ r ∈ rows, r.fits (i + 1))).map (· + 1))) (rd_lcFM (l := List.range 30) (enc := fun (i : Nat) => D.int (1 + (i : Nat))) (p := fun i => decide (∀ r ∈ rows, r.fits (i + 1))) (f := fun i => nD (i + 1)) (wi_rng2 (ra_cons rd_int (ra_one rd_int)) (by decide) (by decide) (by decide) (by decide)) (by exact Nat.le_of_ble_eq_true rfl) fun i _ => ⟨_, _, gd_name, by decide, rt_eq (rt_B (rd_cb (ra_one (rd_eq (rd_lcM (l := rows) (enc := rowD) (f := fun r => .bl (decide (r.fits (i + 1)))) (wi_tup (rd_var rfl)) (by omega) fun r hr2 => ⟨_, _, gd_name, by decide, rd_eq (rd_op (rd_call (ra_cons (rd_var rfl) (ra_cons (rd_eq (e := nD (i + 1)) (rd_var rfl) ?_) (ra_one (rd_var rfl)))) (.mk r (hro.ok r hr2) (i + 1))) rd_non od_notN) ?_⟩) ?_)) (cd_all (bs := rows.map fun r => decide (r.fits (i + 1)))))) ?_, fun _ => rd_eq (rd_var rfl) ?_⟩) ?_) ?_
  · show D.int (1 + (i : Int)) = D.int ((i + 1 : Nat) : Int)
    congr 1
    omega
  · by_cases q : r.fits (i + 1)
    · rw [if_pos q, decide_eq_true q]
      rfl
    · rw [if_neg q, decide_eq_false q]
      rfl
  · rw [List.map_map]
    rfl
  · rw [List.all_map]
    apply Bool.eq_iff_iff.mpr
    rw [List.all_eq_true, decide_eq_true_eq]
    constructor
    · intro h r hr2
      exact of_decide_eq_true (h r hr2)
    · intro h r hr2
      exact decide_eq_true (h r hr2)
  · show D.int (1 + (i : Int)) = D.int ((i + 1 : Nat) : Int)
    congr 1
    omega
  · unfold nsL
    rw [List.map_map]
    rfl
  have hfl : ∀ x ∈ ((List.range 30).filter fun i => decide (∀ r ∈ rows, r.fits (i + 1))).map (· + 1), 1 ≤ x ∧ x ≤ 30 ∧ ∀ r ∈ rows, r.fits x := fun x hx => by
    obtain ⟨i, h1, rfl⟩ := List.mem_map.mp hx
    obtain ⟨h2, h3⟩ := hfit i h1
    exact ⟨by omega, by omega, h3⟩
  generalize hfs : ((List.range 30).filter fun i => decide (∀ r ∈ rows, r.fits (i + 1))).map (· + 1) = fl at hfl ⊢
  refine sd_norm (δ' := [.dat (.scr ns), .ownL p [.scr ns, nD (k1 + 1 + 1 + 1)], .dat (rowsD rows), .dat (.str (wayS b)), .dat (nD one), .dat (nD two), .dat (szD CS (whereBack rows one b)), .dat (szD CS (whereBack rows two b)), .dat (szD CS (whereBack rows (one + two) b)), .dat (rowsD (rows.map Rw.oh)), .dat (.dic lawKD), .dat (nsL fl), .no, .no, .no, .no, .no, .no, .no, .no]) rfl ?_
  refine sqm_forM (xs := cutD (pickI fl (some ((lawTake ns (k1 + 4) 4 : Nat) : Int)) none (some (1 + ((lawTake ns (k1 + 5) 3 : Nat) : Int)))) none (some 6)) (enc := nD) ?_ (fun i δ1 => ∃ s12 s13 s14 s15 s16, δ1 = [.dat (.scr ns), .ownL p [.scr ns, nD (k1 + 1 + 1 + 1 + 1 + 1)], .dat (rowsD rows), .dat (.str (wayS b)), .dat (nD one), .dat (nD two), .dat (szD CS (whereBack rows one b)), .dat (szD CS (whereBack rows two b)), .dat (szD CS (whereBack rows (one + two) b)), .dat (rowsD (rows.map Rw.oh)), .dat (.dic lawKD), .dat (nsL fl), s12, s13, s14, s15, s16, .no, .no, .no]) ⟨.no, .no, .no, .no, .no, rfl⟩ ?_ ?_
  · rw [← cut_map, ← pickI_map]
    refine wm_list (rm_slL (rm_stepL (rm_rd (rd_var rfl)) (rom_some (rm_dr rfl (ra_one (rd_eq (e := nD 4) rd_int rfl)) (.mk 4 (by decide)))) ro_none (rom_some (rm_op (rm_rd rd_int) (rm_dr rfl (ra_one (rd_eq (e := nD 3) rd_int rfl)) (.mk 3 (by decide))) od_i)) ?_) ro_none (ro_some rd_int))
    show (0 : Int) < 1 + ((lawTake ns (k1 + 5) 3 : Nat) : Int)
    omega
  · rintro i x δ1 hi ⟨s12', s13', s14', s15', s16', rfl⟩
    have hxm : x ∈ fl := by
      have h := List.mem_of_getElem? hi
      unfold cutD at h
      exact pickI_mem (List.mem_of_mem_drop (List.mem_of_mem_take h))
    obtain ⟨x1, x2, hfx⟩ := hfl x hxm
    have hpx := hp x hfx
    obtain ⟨hl0, hbi1⟩ := mBI _ x one hpx
    obtain ⟨_, hbi3⟩ := mBI _ x (one + two) hpx
    have q1 : (whereBack rows one b).mem x = decide (one % backAfter rows x b = 0) := by
      rw [m1 x, decide_eq_true hfx, Bool.true_and, hbi1]
      rfl
    have q3 : (whereBack rows (one + two) b).mem x = decide ((one + two) % backAfter rows x b = 0) := by
      rw [m3 x, decide_eq_true hfx, Bool.true_and, hbi3]
      rfl
    have hl0' : 0 < backAfter rows x b := hl0
    refine ⟨_, _, gd_name, sq_asgG (rd_tup (ra_cons (rd_call (ra_cons (rd_var rfl) (ra_cons (rd_var rfl) (ra_one (rd_var rfl)))) (.mk rows hro x hfx (by omega) b)) (ra_one (rd_call (ra_cons (rd_var rfl) (ra_cons (rd_var rfl) (ra_one (rd_var rfl)))) (.mk rows hro x hfx (by omega) b)))) (le5 rfl)) gd_tup2 ?_⟩
    refine sd_norm (δ' := [.dat (.scr ns), .ownL p [.scr ns, nD (k1 + 1 + 1 + 1 + 1 + 1)], .dat (rowsD rows), .dat (.str (wayS b)), .dat (nD one), .dat (nD two), .dat (szD CS (whereBack rows one b)), .dat (szD CS (whereBack rows two b)), .dat (szD CS (whereBack rows (one + two) b)), .dat (rowsD (rows.map Rw.oh)), .dat (.dic lawKD), .dat (nsL fl), .dat (nD x), .dat (nD (backAfter rows x b)), .dat (nsL (sentRound (roundOf rows b) x)), s15', s16', .no, .no, .no]) rfl ?_
    have dm : ∀ m : Nat, decide ((m : Int) % ((backAfter rows x b : Nat) : Int) = 0) = decide (m % backAfter rows x b = 0) := fun m => by
      apply decide_eq_decide.mpr
      rw [← Int.natCast_emod]
      omega
    refine sq_no (rt_eq (rt_or (rt_test (rd_op (rd_memS (rd_var rfl) (rd_var rfl) b1.wf.p0) (rd_op (rd_op (rd_cb (ra_one (rd_var rfl)) cd_int1) (rd_var rfl) (od_C (by show (0 : Int) < ((backAfter rows x b : Nat) : Int); omega))) rd_int od_eqI) od_neB)) fun _ => rt_test (rd_op (rd_memS (rd_var rfl) (rd_var rfl) b3.wf.p0) (rd_op (rd_op (rd_cb (ra_one (rd_eq (e := nD (one + two)) (rd_op (rd_var rfl) (rd_var rfl) od_i) rfl)) cd_int1) (rd_var rfl) (od_C (by show (0 : Int) < ((backAfter rows x b : Nat) : Int); omega))) rd_int od_eqI) od_neB)) ?_) ?_
    · rw [dm, dm, q1, q3, decide_eq_true rfl, decide_eq_true rfl]
      rfl
    have eso : sentRound (roundOf (rows.map Rw.oh) b) x = sentRound (roundOf rows b) x := sentRound_like ((likeL_oh rows).round b) x
    refine sq_no (rt_eq (rt_or (rt_test (rd_op (rd_cb (ra_one (rd_var rfl)) (cd_sortedN hpx)) (rd_listRgN (rd_var rfl) (by omega)) od_neN)) fun _ => rt_test (rd_op (rd_call (ra_cons (rd_var rfl) (ra_cons (rd_var rfl) (ra_one (rd_var rfl)))) (.mk _ hoo x (oh_fits hfx) (by omega) b)) (rd_var rfl) od_neN)) ?_) ?_
    · rw [eso, decide_eq_true rfl, decide_eq_true rfl]
      rfl
    refine sq_asg (rd_call (ra_cons (rd_eq (e := rowsD (rows ++ rows)) (rd_op (rd_var rfl) (rd_var rfl) (od_catA ?_)) ?_) (ra_cons (rd_var rfl) (ra_one (rd_var rfl)))) (.mk (rows ++ rows) (app_rowsOk hro hlen) x (app_fits hfx) (by omega) b)) ?_
    · rw [List.length_map]
      omega
    · rw [← List.map_append]
      rfl
    refine sq_asg (rd_if (x := decide (b = true ∨ rows.length % 2 = 0)) (d := nsL (if b = true ∨ rows.length % 2 = 0 then move (sentRound (roundOf rows b) x) (sentRound (roundOf rows b) x) else sentRound (roundOf rows b) x)) (rt_eq (rt_or (rt_test (rd_op (rd_var rfl) rd_str od_eqS)) fun _ => rt_test (rd_op (rd_op (rd_cb (ra_one (rd_cb (ra_one (rd_var rfl)) cd_lenW)) cd_int1) rd_int (od_C (by show (0 : Int) < 2; decide))) rd_int od_eqI)) ?_) (fun h1 => ?_) (fun h1 => ?_)) ?_
    · cases b with
      | true => rfl
      | false =>
        apply Bool.eq_iff_iff.mpr
        rw [show decide (wayS false = Str.ofString "round") = false by decide, Bool.false_or, decide_eq_true_eq, decide_eq_true_eq]
        constructor
        · intro h
          exact .inr (by omega)
        · rintro (h | h)
          · cases h
          · omega
    · rw [if_pos (of_decide_eq_true h1)]
      refine rd_eq (rd_lcM (l := sentRound (roundOf rows b) x) (enc := nD) (f := fun p => nD ((sentRound (roundOf rows b) x).getD p 0)) (wi_list (rd_var rfl)) (by rw [perm_len hpx]; omega) fun y hy => ⟨_, _, gd_name, by decide, rd_op (rd_var rfl) (rd_var rfl) (od_ixL (at_n ?_))⟩) ?_
      · rw [perm_len hpx]
        exact perm_lt hpx y hy
      · unfold move nsL
        rw [List.map_map]
        rfl
    · rw [if_neg (of_decide_eq_false h1)]
      exact rd_var rfl
    refine sd_norm (δ' := [.dat (.scr ns), .ownL p [.scr ns, nD (k1 + 1 + 1 + 1 + 1 + 1)], .dat (rowsD rows), .dat (.str (wayS b)), .dat (nD one), .dat (nD two), .dat (szD CS (whereBack rows one b)), .dat (szD CS (whereBack rows two b)), .dat (szD CS (whereBack rows (one + two) b)), .dat (rowsD (rows.map Rw.oh)), .dat (.dic lawKD), .dat (nsL fl), .dat (nD x), .dat (nD (backAfter rows x b)), .dat (nsL (sentRound (roundOf rows b) x)), .dat (nsL (sentRound (roundOf (rows ++ rows) b) x)), .dat (nsL (if b = true ∨ rows.length % 2 = 0 then move (sentRound (roundOf rows b) x) (sentRound (roundOf rows b) x) else sentRound (roundOf rows b) x)), .no, .no, .no]) rfl ?_
    refine sd_if (x := false) (rt_eq (rt_test (rd_op (rd_var rfl) (rd_var rfl) od_neN)) ?_) (fun z => nomatch z) fun _ => sd_next ⟨_, _, _, _, _, rfl⟩
    rw [twice_due hro hfx, decide_eq_true rfl]
    rfl
  · rintro δ1 ⟨s12', s13', s14', s15', s16', rfl⟩
    exact sd_ret rd_bl rfl
end
end K17
namespace K17
open PySem L2 PySem.Spec PyProof.Rows
theorem kat_of {K : PySem.W.Frag} {kd a : Addr} {k : Kd} {dd : Option Addr} {n : Nat} {sl : Array (Option Value)} {t1 t2 t3 t4 : Tok} (h1 : PySem.W.nsIn K kd k.str = some (some (.ref a))) (h2 : K.lookup a = some ⟨.type "tuple", dd, .seq #[.int (k.tk : Int) t1, .int (k.tk : Int) t2, .str k.bk.str t3, .str k.mi t4] n, sl⟩) : KAt K kd k.str k.vals :=
  ⟨a, h1, fun H => .inr ⟨_, _, _, h2, rfl, rfl, by show 4 ≤ sizeLine; decide, .cons ⟨_, rfl⟩ (.cons ⟨_, rfl⟩ (.cons ⟨_, rfl⟩ (.cons ⟨_, rfl⟩ .nil)))⟩⟩
theorem kit_self {K : PySem.W.Frag} {C : Addr} : PySem.W.kitOne K (.ref C) (.ref C) = some true := by
  unfold PySem.W.kitOne
  rw [if_pos (by simp)]
theorem all_mk {l : PySem.W.OpenLaw} {w : World} {K : PySem.W.Frag} {h : Heap} {mg : Str → Option Value} {fa : Addr} (X : K.In h) (G : h.Ns mainGlobals mg) (hfa : mg "law" = some (.ref fa))
    {kd CS CR CP : Addr} {f_Sizes___bool__ : Addr} {od_Sizes___bool__ an_Sizes___bool__ : Option Addr} {sl_Sizes___bool__ : Array (Option Value)} {oc_Sizes___bool__ kV_Sizes___bool__ dc_Sizes___bool__ pm_Sizes___bool__ cd_Sizes___bool__ ct_Sizes___bool__ : Value} {f_Sizes___eq__ : Addr} {od_Sizes___eq__ an_Sizes___eq__ : Option Addr} {sl_Sizes___eq__ : Array (Option Value)} {oc_Sizes___eq__ kV_Sizes___eq__ dc_Sizes___eq__ pm_Sizes___eq__ cd_Sizes___eq__ ct_Sizes___eq__ : Value} {f__law_kinds : Addr} {od__law_kinds an__law_kinds : Option Addr} {sl__law_kinds : Array (Option Value)} {oc__law_kinds kV__law_kinds dc__law_kinds pm__law_kinds cd__law_kinds ct__law_kinds : Value} {f__law_number : Addr} {od__law_number an__law_number : Option Addr} {sl__law_number : Array (Option Value)} {oc__law_number kV__law_number dc__law_number pm__law_number cd__law_number ct__law_number : Value} {f__law_other_hand : Addr} {od__law_other_hand an__law_other_hand : Option Addr} {sl__law_other_hand : Array (Option Value)} {oc__law_other_hand kV__law_other_hand dc__law_other_hand pm__law_other_hand cd__law_other_hand ct__law_other_hand : Value} {f__law_takes : Addr} {od__law_takes an__law_takes : Option Addr} {sl__law_takes : Array (Option Value)} {oc__law_takes kV__law_takes dc__law_takes pm__law_takes cd__law_takes ct__law_takes : Value} {f__least_period : Addr} {od__least_period an__least_period : Option Addr} {sl__least_period : Array (Option Value)} {oc__least_period kV__least_period dc__least_period pm__least_period cd__least_period ct__least_period : Value} {f_behind : Addr} {od_behind an_behind : Option Addr} {sl_behind : Array (Option Value)} {oc_behind kV_behind dc_behind pm_behind cd_behind ct_behind : Value} {f_common : Addr} {od_common an_common : Option Addr} {sl_common : Array (Option Value)} {oc_common kV_common dc_common pm_common cd_common ct_common : Value} {f_common_divisor : Addr} {od_common_divisor an_common_divisor : Option Addr} {sl_common_divisor : Array (Option Value)} {oc_common_divisor kV_common_divisor dc_common_divisor pm_common_divisor cd_common_divisor ct_common_divisor : Value} {f_cycles : Addr} {od_cycles an_cycles : Option Addr} {sl_cycles : Array (Option Value)} {oc_cycles kV_cycles dc_cycles pm_cycles cd_cycles ct_cycles : Value} {f_is_kind : Addr} {od_is_kind an_is_kind : Option Addr} {sl_is_kind : Array (Option Value)} {oc_is_kind kV_is_kind dc_is_kind pm_is_kind cd_is_kind ct_is_kind : Value} {f_is_number : Addr} {od_is_number an_is_number : Option Addr} {sl_is_number : Array (Option Value)} {oc_is_number kV_is_number dc_is_number pm_is_number cd_is_number ct_is_number : Value} {f_is_steady_word : Addr} {od_is_steady_word an_is_steady_word : Option Addr} {sl_is_steady_word : Array (Option Value)} {oc_is_steady_word kV_is_steady_word dc_is_steady_word pm_is_steady_word cd_is_steady_word ct_is_steady_word : Value} {f_is_yarn : Addr} {od_is_yarn an_is_yarn : Option Addr} {sl_is_yarn : Array (Option Value)} {oc_is_yarn kV_is_yarn dc_is_yarn pm_is_yarn cd_is_yarn ct_is_yarn : Value} {f_marks_of : Addr} {od_marks_of an_marks_of : Option Addr} {sl_marks_of : Array (Option Value)} {oc_marks_of kV_marks_of dc_marks_of pm_marks_of cd_marks_of ct_marks_of : Value} {f_sent_by : Addr} {od_sent_by an_sent_by : Option Addr} {sl_sent_by : Array (Option Value)} {oc_sent_by kV_sent_by dc_sent_by pm_sent_by cd_sent_by ct_sent_by : Value} {f_sent_many : Addr} {od_sent_many an_sent_many : Option Addr} {sl_sent_many : Array (Option Value)} {oc_sent_many kV_sent_many dc_sent_many pm_sent_many cd_sent_many ct_sent_many : Value} {f_takes : Addr} {od_takes an_takes : Option Addr} {sl_takes : Array (Option Value)} {oc_takes kV_takes dc_takes pm_takes cd_takes ct_takes : Value} {f_Ratio___init__ : Addr} {od_Ratio___init__ an_Ratio___init__ : Option Addr} {sl_Ratio___init__ : Array (Option Value)} {oc_Ratio___init__ kV_Ratio___init__ dc_Ratio___init__ pm_Ratio___init__ cd_Ratio___init__ ct_Ratio___init__ : Value} {f_Sizes___contains__ : Addr} {od_Sizes___contains__ an_Sizes___contains__ : Option Addr} {sl_Sizes___contains__ : Array (Option Value)} {oc_Sizes___contains__ kV_Sizes___contains__ dc_Sizes___contains__ pm_Sizes___contains__ cd_Sizes___contains__ ct_Sizes___contains__ : Value} {f_Spot___init__ : Addr} {od_Spot___init__ an_Spot___init__ : Option Addr} {sl_Spot___init__ : Array (Option Value)} {oc_Spot___init__ kV_Spot___init__ dc_Spot___init__ pm_Spot___init__ cd_Spot___init__ ct_Spot___init__ : Value} {f__are_numbers : Addr} {od__are_numbers an__are_numbers : Option Addr} {sl__are_numbers : Array (Option Value)} {oc__are_numbers kV__are_numbers dc__are_numbers pm__are_numbers cd__are_numbers ct__are_numbers : Value} {f__law_take : Addr} {od__law_take an__law_take : Option Addr} {sl__law_take : Array (Option Value)} {oc__law_take kV__law_take dc__law_take pm__law_take cd__law_take ct__law_take : Value} {f__law_turns : Addr} {od__law_turns an__law_turns : Option Addr} {sl__law_turns : Array (Option Value)} {oc__law_turns kV__law_turns dc__law_turns pm__law_turns cd__law_turns ct__law_turns : Value} {f_behind_row : Addr} {od_behind_row an_behind_row : Option Addr} {sl_behind_row : Array (Option Value)} {oc_behind_row kV_behind_row dc_behind_row pm_behind_row cd_behind_row ct_behind_row : Value} {f_check_size : Addr} {od_check_size an_check_size : Option Addr} {sl_check_size : Array (Option Value)} {oc_check_size kV_check_size dc_check_size pm_check_size cd_check_size ct_check_size : Value} {f_is_back : Addr} {od_is_back an_is_back : Option Addr} {sl_is_back : Array (Option Value)} {oc_is_back kV_is_back dc_is_back pm_is_back cd_is_back ct_is_back : Value} {f_is_cell : Addr} {od_is_cell an_is_cell : Option Addr} {sl_is_cell : Array (Option Value)} {oc_is_cell kV_is_cell dc_is_cell pm_is_cell cd_is_cell ct_is_cell : Value} {f_is_steady : Addr} {od_is_steady an_is_steady : Option Addr} {sl_is_steady : Array (Option Value)} {oc_is_steady kV_is_steady dc_is_steady pm_is_steady cd_is_steady ct_is_steady : Value} {f_least_form : Addr} {od_least_form an_least_form : Option Addr} {sl_least_form : Array (Option Value)} {oc_least_form kV_least_form dc_least_form pm_least_form cd_least_form ct_least_form : Value} {f_set_form : Addr} {od_set_form an_set_form : Option Addr} {sl_set_form : Array (Option Value)} {oc_set_form kV_set_form dc_set_form pm_set_form cd_set_form ct_set_form : Value} {f_shared_period : Addr} {od_shared_period an_shared_period : Option Addr} {sl_shared_period : Array (Option Value)} {oc_shared_period kV_shared_period dc_shared_period pm_shared_period cd_shared_period ct_shared_period : Value} {f_trouble_of : Addr} {od_trouble_of an_trouble_of : Option Addr} {sl_trouble_of : Array (Option Value)} {oc_trouble_of kV_trouble_of dc_trouble_of pm_trouble_of cd_trouble_of ct_trouble_of : Value} {f_turns_of : Addr} {od_turns_of an_turns_of : Option Addr} {sl_turns_of : Array (Option Value)} {oc_turns_of kV_turns_of dc_turns_of pm_turns_of cd_turns_of ct_turns_of : Value} {f_Sizes___init__ : Addr} {od_Sizes___init__ an_Sizes___init__ : Option Addr} {sl_Sizes___init__ : Array (Option Value)} {oc_Sizes___init__ kV_Sizes___init__ dc_Sizes___init__ pm_Sizes___init__ cd_Sizes___init__ ct_Sizes___init__ : Value} {f__law_pick : Addr} {od__law_pick an__law_pick : Option Addr} {sl__law_pick : Array (Option Value)} {oc__law_pick kV__law_pick dc__law_pick pm__law_pick cd__law_pick ct__law_pick : Value} {f_is_word : Addr} {od_is_word an_is_word : Option Addr} {sl_is_word : Array (Option Value)} {oc_is_word kV_is_word dc_is_word pm_is_word cd_is_word ct_is_word : Value} {f_round_of : Addr} {od_round_of an_round_of : Option Addr} {sl_round_of : Array (Option Value)} {oc_round_of kV_round_of dc_round_of pm_round_of cd_round_of ct_round_of : Value} {f_worked : Addr} {od_worked an_worked : Option Addr} {sl_worked : Array (Option Value)} {oc_worked kV_worked dc_worked pm_worked cd_worked ct_worked : Value} {f_Ratio_plus : Addr} {od_Ratio_plus an_Ratio_plus : Option Addr} {sl_Ratio_plus : Array (Option Value)} {oc_Ratio_plus kV_Ratio_plus dc_Ratio_plus pm_Ratio_plus cd_Ratio_plus ct_Ratio_plus : Value} {f__law_steady_rows : Addr} {od__law_steady_rows an__law_steady_rows : Option Addr} {sl__law_steady_rows : Array (Option Value)} {oc__law_steady_rows kV__law_steady_rows dc__law_steady_rows pm__law_steady_rows cd__law_steady_rows ct__law_steady_rows : Value} {f_is_row : Addr} {od_is_row an_is_row : Option Addr} {sl_is_row : Array (Option Value)} {oc_is_row kV_is_row dc_is_row pm_is_row cd_is_row ct_is_row : Value} {f_of_line : Addr} {od_of_line an_of_line : Option Addr} {sl_of_line : Array (Option Value)} {oc_of_line kV_of_line dc_of_line pm_of_line cd_of_line ct_of_line : Value} {f_sent_round : Addr} {od_sent_round an_sent_round : Option Addr} {sl_sent_round : Array (Option Value)} {oc_sent_round kV_sent_round dc_sent_round pm_sent_round cd_sent_round ct_sent_round : Value} {f_Ratio_where_divides : Addr} {od_Ratio_where_divides an_Ratio_where_divides : Option Addr} {sl_Ratio_where_divides : Array (Option Value)} {oc_Ratio_where_divides kV_Ratio_where_divides dc_Ratio_where_divides pm_Ratio_where_divides cd_Ratio_where_divides ct_Ratio_where_divides : Value} {f_Sizes___and__ : Addr} {od_Sizes___and__ an_Sizes___and__ : Option Addr} {sl_Sizes___and__ : Array (Option Value)} {oc_Sizes___and__ kV_Sizes___and__ dc_Sizes___and__ pm_Sizes___and__ cd_Sizes___and__ ct_Sizes___and__ : Value} {f_Sizes___sub__ : Addr} {od_Sizes___sub__ an_Sizes___sub__ : Option Addr} {sl_Sizes___sub__ : Array (Option Value)} {oc_Sizes___sub__ kV_Sizes___sub__ dc_Sizes___sub__ pm_Sizes___sub__ cd_Sizes___sub__ ct_Sizes___sub__ : Value} {f_all_sizes : Addr} {od_all_sizes an_all_sizes : Option Addr} {sl_all_sizes : Array (Option Value)} {oc_all_sizes kV_all_sizes dc_all_sizes pm_all_sizes cd_all_sizes ct_all_sizes : Value} {f_check_row : Addr} {od_check_row an_check_row : Option Addr} {sl_check_row : Array (Option Value)} {oc_check_row kV_check_row dc_check_row pm_check_row cd_check_row ct_check_row : Value} {f_from_marks : Addr} {od_from_marks an_from_marks : Option Addr} {sl_from_marks : Array (Option Value)} {oc_from_marks kV_from_marks dc_from_marks pm_from_marks cd_from_marks ct_from_marks : Value} {f_from_on : Addr} {od_from_on an_from_on : Option Addr} {sl_from_on : Array (Option Value)} {oc_from_on kV_from_on dc_from_on pm_from_on cd_from_on ct_from_on : Value} {f_Ratio_where_least : Addr} {od_Ratio_where_least an_Ratio_where_least : Option Addr} {sl_Ratio_where_least : Array (Option Value)} {oc_Ratio_where_least kV_Ratio_where_least dc_Ratio_where_least pm_Ratio_where_least cd_Ratio_where_least ct_Ratio_where_least : Value} {f_Sizes_within : Addr} {od_Sizes_within an_Sizes_within : Option Addr} {sl_Sizes_within : Array (Option Value)} {oc_Sizes_within kV_Sizes_within dc_Sizes_within pm_Sizes_within cd_Sizes_within ct_Sizes_within : Value} {f_check_steady : Addr} {od_check_steady an_check_steady : Option Addr} {sl_check_steady : Array (Option Value)} {oc_check_steady kV_check_steady dc_check_steady pm_check_steady cd_check_steady ct_check_steady : Value} {f_fitting : Addr} {od_fitting an_fitting : Option Addr} {sl_fitting : Array (Option Value)} {oc_fitting kV_fitting dc_fitting pm_fitting cd_fitting ct_fitting : Value} {f_sent : Addr} {od_sent an_sent : Option Addr} {sl_sent : Array (Option Value)} {oc_sent kV_sent dc_sent pm_sent cd_sent ct_sent : Value} {T_sent : Addr} {oT_sent : Value} {dT_sent : Option Addr} {tk_sent : Tok} {nT_sent : Nat} {sT_sent : Array (Option Value)} {f_back_after : Addr} {od_back_after an_back_after : Option Addr} {sl_back_after : Array (Option Value)} {oc_back_after kV_back_after dc_back_after pm_back_after cd_back_after ct_back_after : Value} {T_back_after : Addr} {oT_back_after : Value} {dT_back_after : Option Addr} {tk_back_after : Tok} {nT_back_after : Nat} {sT_back_after : Array (Option Value)} {f_where_fits : Addr} {od_where_fits an_where_fits : Option Addr} {sl_where_fits : Array (Option Value)} {oc_where_fits kV_where_fits dc_where_fits pm_where_fits cd_where_fits ct_where_fits : Value} {f_where_back : Addr} {od_where_back an_where_back : Option Addr} {sl_where_back : Array (Option Value)} {oc_where_back kV_where_back dc_where_back pm_where_back cd_where_back ct_where_back : Value} {T_where_back : Addr} {oT_where_back : Value} {dT_where_back : Option Addr} {tk_where_back : Tok} {nT_where_back : Nat} {sT_where_back : Array (Option Value)} {f_law : Addr} {od_law an_law : Option Addr} {sl_law : Array (Option Value)} {oc_law kV_law dc_law pm_law cd_law ct_law : Value} {tc_MOST_PERIOD_sizes : Tok} {tc_MOST_CELLS : Tok} {tc_MOST_REST : Tok} {tc_MOST_MOVES : Tok} {tc_MOST_ROWS : Tok} {tc_MOST_PERIOD_crossing : Tok} {es : Array DictEntry} {nkd : Nat} {q_k : Addr} {qd_k : Option Addr} {qn_k : Nat} {qs_k : Array (Option Value)} {qa_k qb_k qc_k qe_k : Tok} {q_p : Addr} {qd_p : Option Addr} {qn_p : Nat} {qs_p : Array (Option Value)} {qa_p qb_p qc_p qe_p : Tok} {q_c2f : Addr} {qd_c2f : Option Addr} {qn_c2f : Nat} {qs_c2f : Array (Option Value)} {qa_c2f qb_c2f qc_c2f qe_c2f : Tok} {q_c2b : Addr} {qd_c2b : Option Addr} {qn_c2b : Nat} {qs_c2b : Array (Option Value)} {qa_c2b qb_c2b qc_c2b qe_c2b : Tok} {q_c2fw : Addr} {qd_c2fw : Option Addr} {qn_c2fw : Nat} {qs_c2fw : Array (Option Value)} {qa_c2fw qb_c2fw qc_c2fw qe_c2fw : Tok} {q_c2bw : Addr} {qd_c2bw : Option Addr} {qn_c2bw : Nat} {qs_c2bw : Array (Option Value)} {qa_c2bw qb_c2bw qc_c2bw qe_c2bw : Tok} {q_c4f : Addr} {qd_c4f : Option Addr} {qn_c4f : Nat} {qs_c4f : Array (Option Value)} {qa_c4f qb_c4f qc_c4f qe_c4f : Tok} {q_c4b : Addr} {qd_c4b : Option Addr} {qn_c4b : Nat} {qs_c4b : Array (Option Value)} {qa_c4b qb_c4b qc_c4b qe_c4b : Tok} {q_c4fw : Addr} {qd_c4fw : Option Addr} {qn_c4fw : Nat} {qs_c4fw : Array (Option Value)} {qa_c4fw qb_c4fw qc_c4fw qe_c4fw : Tok} {q_c4bw : Addr} {qd_c4bw : Option Addr} {qn_c4bw : Nat} {qs_c4bw : Array (Option Value)} {qa_c4bw qb_c4bw qc_c4bw qe_c4bw : Tok}
    (gK : PySem.W.nsIn K mainGlobals "KINDS" = some (some (.ref kd)))
    (gCS : PySem.W.nsIn K mainGlobals "Sizes" = some (some (.ref CS)))
    (gCR : PySem.W.nsIn K mainGlobals "Ratio" = some (some (.ref CR)))
    (gCP : PySem.W.nsIn K mainGlobals "Spot" = some (some (.ref CP)))
    (a_Sizes___bool__ : PySem.W.findIn K (.ref CS) "__bool__" = some (some (.ref f_Sizes___bool__)))
    (i_Sizes___bool__ : PySem.W.isFn K (.ref f_Sizes___bool__) = true)
    (l_Sizes___bool__ : K.lookup f_Sizes___bool__ = some ⟨oc_Sizes___bool__, od_Sizes___bool__, .func (PySem.W.fnOf "__bool__" "Sizes.__bool__" (defArgs s_Sizes___bool__) (defBody s_Sizes___bool__) (defScope s_Sizes___bool__) .none kV_Sizes___bool__ dc_Sizes___bool__ pm_Sizes___bool__ an_Sizes___bool__ cd_Sizes___bool__ ct_Sizes___bool__), sl_Sizes___bool__⟩)
    (c_Sizes___bool__ : PySem.W.codeIn K cd_Sizes___bool__ "Sizes.__bool__" = true)
    (k_Sizes___bool__ : PySem.W.keepIn K (.ref f_Sizes___bool__) = true)
    (a_Sizes___eq__ : PySem.W.findIn K (.ref CS) "__eq__" = some (some (.ref f_Sizes___eq__)))
    (i_Sizes___eq__ : PySem.W.isFn K (.ref f_Sizes___eq__) = true)
    (l_Sizes___eq__ : K.lookup f_Sizes___eq__ = some ⟨oc_Sizes___eq__, od_Sizes___eq__, .func (PySem.W.fnOf "__eq__" "Sizes.__eq__" (defArgs s_Sizes___eq__) (defBody s_Sizes___eq__) (defScope s_Sizes___eq__) .none kV_Sizes___eq__ dc_Sizes___eq__ pm_Sizes___eq__ an_Sizes___eq__ cd_Sizes___eq__ ct_Sizes___eq__), sl_Sizes___eq__⟩)
    (c_Sizes___eq__ : PySem.W.codeIn K cd_Sizes___eq__ "Sizes.__eq__" = true)
    (k_Sizes___eq__ : PySem.W.keepIn K (.ref f_Sizes___eq__) = true)
    (a__law_kinds : PySem.W.nsIn K mainGlobals "_law_kinds" = some (some (.ref f__law_kinds)))
    (l__law_kinds : K.lookup f__law_kinds = some ⟨oc__law_kinds, od__law_kinds, .func (PySem.W.fnOf "_law_kinds" "_law_kinds" (defArgs s__law_kinds) (defBody s__law_kinds) (defScope s__law_kinds) .none kV__law_kinds dc__law_kinds pm__law_kinds an__law_kinds cd__law_kinds ct__law_kinds), sl__law_kinds⟩)
    (c__law_kinds : PySem.W.codeIn K cd__law_kinds "_law_kinds" = true)
    (k__law_kinds : PySem.W.keepIn K (.ref f__law_kinds) = true)
    (a__law_number : PySem.W.nsIn K mainGlobals "_law_number" = some (some (.ref f__law_number)))
    (l__law_number : K.lookup f__law_number = some ⟨oc__law_number, od__law_number, .func (PySem.W.fnOf "_law_number" "_law_number" (defArgs s__law_number) (defBody s__law_number) (defScope s__law_number) .none kV__law_number dc__law_number pm__law_number an__law_number cd__law_number ct__law_number), sl__law_number⟩)
    (c__law_number : PySem.W.codeIn K cd__law_number "_law_number" = true)
    (k__law_number : PySem.W.keepIn K (.ref f__law_number) = true)
    (a__law_other_hand : PySem.W.nsIn K mainGlobals "_law_other_hand" = some (some (.ref f__law_other_hand)))
    (l__law_other_hand : K.lookup f__law_other_hand = some ⟨oc__law_other_hand, od__law_other_hand, .func (PySem.W.fnOf "_law_other_hand" "_law_other_hand" (defArgs s__law_other_hand) (defBody s__law_other_hand) (defScope s__law_other_hand) .none kV__law_other_hand dc__law_other_hand pm__law_other_hand an__law_other_hand cd__law_other_hand ct__law_other_hand), sl__law_other_hand⟩)
    (c__law_other_hand : PySem.W.codeIn K cd__law_other_hand "_law_other_hand" = true)
    (k__law_other_hand : PySem.W.keepIn K (.ref f__law_other_hand) = true)
    (a__law_takes : PySem.W.nsIn K mainGlobals "_law_takes" = some (some (.ref f__law_takes)))
    (l__law_takes : K.lookup f__law_takes = some ⟨oc__law_takes, od__law_takes, .func (PySem.W.fnOf "_law_takes" "_law_takes" (defArgs s__law_takes) (defBody s__law_takes) (defScope s__law_takes) .none kV__law_takes dc__law_takes pm__law_takes an__law_takes cd__law_takes ct__law_takes), sl__law_takes⟩)
    (c__law_takes : PySem.W.codeIn K cd__law_takes "_law_takes" = true)
    (k__law_takes : PySem.W.keepIn K (.ref f__law_takes) = true)
    (a__least_period : PySem.W.nsIn K mainGlobals "_least_period" = some (some (.ref f__least_period)))
    (l__least_period : K.lookup f__least_period = some ⟨oc__least_period, od__least_period, .func (PySem.W.fnOf "_least_period" "_least_period" (defArgs s__least_period) (defBody s__least_period) (defScope s__least_period) .none kV__least_period dc__least_period pm__least_period an__least_period cd__least_period ct__least_period), sl__least_period⟩)
    (c__least_period : PySem.W.codeIn K cd__least_period "_least_period" = true)
    (k__least_period : PySem.W.keepIn K (.ref f__least_period) = true)
    (a_behind : PySem.W.nsIn K mainGlobals "behind" = some (some (.ref f_behind)))
    (l_behind : K.lookup f_behind = some ⟨oc_behind, od_behind, .func (PySem.W.fnOf "behind" "behind" (defArgs s_behind) (defBody s_behind) (defScope s_behind) .none kV_behind dc_behind pm_behind an_behind cd_behind ct_behind), sl_behind⟩)
    (c_behind : PySem.W.codeIn K cd_behind "behind" = true)
    (k_behind : PySem.W.keepIn K (.ref f_behind) = true)
    (a_common : PySem.W.nsIn K mainGlobals "common" = some (some (.ref f_common)))
    (l_common : K.lookup f_common = some ⟨oc_common, od_common, .func (PySem.W.fnOf "common" "common" (defArgs s_common) (defBody s_common) (defScope s_common) .none kV_common dc_common pm_common an_common cd_common ct_common), sl_common⟩)
    (c_common : PySem.W.codeIn K cd_common "common" = true)
    (k_common : PySem.W.keepIn K (.ref f_common) = true)
    (a_common_divisor : PySem.W.nsIn K mainGlobals "common_divisor" = some (some (.ref f_common_divisor)))
    (l_common_divisor : K.lookup f_common_divisor = some ⟨oc_common_divisor, od_common_divisor, .func (PySem.W.fnOf "common_divisor" "common_divisor" (defArgs s_common_divisor) (defBody s_common_divisor) (defScope s_common_divisor) .none kV_common_divisor dc_common_divisor pm_common_divisor an_common_divisor cd_common_divisor ct_common_divisor), sl_common_divisor⟩)
    (c_common_divisor : PySem.W.codeIn K cd_common_divisor "common_divisor" = true)
    (k_common_divisor : PySem.W.keepIn K (.ref f_common_divisor) = true)
    (a_cycles : PySem.W.nsIn K mainGlobals "cycles" = some (some (.ref f_cycles)))
    (l_cycles : K.lookup f_cycles = some ⟨oc_cycles, od_cycles, .func (PySem.W.fnOf "cycles" "cycles" (defArgs s_cycles) (defBody s_cycles) (defScope s_cycles) .none kV_cycles dc_cycles pm_cycles an_cycles cd_cycles ct_cycles), sl_cycles⟩)
    (c_cycles : PySem.W.codeIn K cd_cycles "cycles" = true)
    (k_cycles : PySem.W.keepIn K (.ref f_cycles) = true)
    (a_is_kind : PySem.W.nsIn K mainGlobals "is_kind" = some (some (.ref f_is_kind)))
    (l_is_kind : K.lookup f_is_kind = some ⟨oc_is_kind, od_is_kind, .func (PySem.W.fnOf "is_kind" "is_kind" (defArgs s_is_kind) (defBody s_is_kind) (defScope s_is_kind) .none kV_is_kind dc_is_kind pm_is_kind an_is_kind cd_is_kind ct_is_kind), sl_is_kind⟩)
    (c_is_kind : PySem.W.codeIn K cd_is_kind "is_kind" = true)
    (k_is_kind : PySem.W.keepIn K (.ref f_is_kind) = true)
    (a_is_number : PySem.W.nsIn K mainGlobals "is_number" = some (some (.ref f_is_number)))
    (l_is_number : K.lookup f_is_number = some ⟨oc_is_number, od_is_number, .func (PySem.W.fnOf "is_number" "is_number" (defArgs s_is_number) (defBody s_is_number) (defScope s_is_number) .none kV_is_number dc_is_number pm_is_number an_is_number cd_is_number ct_is_number), sl_is_number⟩)
    (c_is_number : PySem.W.codeIn K cd_is_number "is_number" = true)
    (k_is_number : PySem.W.keepIn K (.ref f_is_number) = true)
    (a_is_steady_word : PySem.W.nsIn K mainGlobals "is_steady_word" = some (some (.ref f_is_steady_word)))
    (l_is_steady_word : K.lookup f_is_steady_word = some ⟨oc_is_steady_word, od_is_steady_word, .func (PySem.W.fnOf "is_steady_word" "is_steady_word" (defArgs s_is_steady_word) (defBody s_is_steady_word) (defScope s_is_steady_word) .none kV_is_steady_word dc_is_steady_word pm_is_steady_word an_is_steady_word cd_is_steady_word ct_is_steady_word), sl_is_steady_word⟩)
    (c_is_steady_word : PySem.W.codeIn K cd_is_steady_word "is_steady_word" = true)
    (k_is_steady_word : PySem.W.keepIn K (.ref f_is_steady_word) = true)
    (a_is_yarn : PySem.W.nsIn K mainGlobals "is_yarn" = some (some (.ref f_is_yarn)))
    (l_is_yarn : K.lookup f_is_yarn = some ⟨oc_is_yarn, od_is_yarn, .func (PySem.W.fnOf "is_yarn" "is_yarn" (defArgs s_is_yarn) (defBody s_is_yarn) (defScope s_is_yarn) .none kV_is_yarn dc_is_yarn pm_is_yarn an_is_yarn cd_is_yarn ct_is_yarn), sl_is_yarn⟩)
    (c_is_yarn : PySem.W.codeIn K cd_is_yarn "is_yarn" = true)
    (k_is_yarn : PySem.W.keepIn K (.ref f_is_yarn) = true)
    (a_marks_of : PySem.W.nsIn K mainGlobals "marks_of" = some (some (.ref f_marks_of)))
    (l_marks_of : K.lookup f_marks_of = some ⟨oc_marks_of, od_marks_of, .func (PySem.W.fnOf "marks_of" "marks_of" (defArgs s_marks_of) (defBody s_marks_of) (defScope s_marks_of) .none kV_marks_of dc_marks_of pm_marks_of an_marks_of cd_marks_of ct_marks_of), sl_marks_of⟩)
    (c_marks_of : PySem.W.codeIn K cd_marks_of "marks_of" = true)
    (k_marks_of : PySem.W.keepIn K (.ref f_marks_of) = true)
    (a_sent_by : PySem.W.nsIn K mainGlobals "sent_by" = some (some (.ref f_sent_by)))
    (l_sent_by : K.lookup f_sent_by = some ⟨oc_sent_by, od_sent_by, .func (PySem.W.fnOf "sent_by" "sent_by" (defArgs s_sent_by) (defBody s_sent_by) (defScope s_sent_by) .none kV_sent_by dc_sent_by pm_sent_by an_sent_by cd_sent_by ct_sent_by), sl_sent_by⟩)
    (c_sent_by : PySem.W.codeIn K cd_sent_by "sent_by" = true)
    (k_sent_by : PySem.W.keepIn K (.ref f_sent_by) = true)
    (a_sent_many : PySem.W.nsIn K mainGlobals "sent_many" = some (some (.ref f_sent_many)))
    (l_sent_many : K.lookup f_sent_many = some ⟨oc_sent_many, od_sent_many, .func (PySem.W.fnOf "sent_many" "sent_many" (defArgs s_sent_many) (defBody s_sent_many) (defScope s_sent_many) .none kV_sent_many dc_sent_many pm_sent_many an_sent_many cd_sent_many ct_sent_many), sl_sent_many⟩)
    (c_sent_many : PySem.W.codeIn K cd_sent_many "sent_many" = true)
    (k_sent_many : PySem.W.keepIn K (.ref f_sent_many) = true)
    (a_takes : PySem.W.nsIn K mainGlobals "takes" = some (some (.ref f_takes)))
    (l_takes : K.lookup f_takes = some ⟨oc_takes, od_takes, .func (PySem.W.fnOf "takes" "takes" (defArgs s_takes) (defBody s_takes) (defScope s_takes) .none kV_takes dc_takes pm_takes an_takes cd_takes ct_takes), sl_takes⟩)
    (c_takes : PySem.W.codeIn K cd_takes "takes" = true)
    (k_takes : PySem.W.keepIn K (.ref f_takes) = true)
    (a_Ratio___init__ : PySem.W.findIn K (.ref CR) "__init__" = some (some (.ref f_Ratio___init__)))
    (i_Ratio___init__ : PySem.W.isFn K (.ref f_Ratio___init__) = true)
    (l_Ratio___init__ : K.lookup f_Ratio___init__ = some ⟨oc_Ratio___init__, od_Ratio___init__, .func (PySem.W.fnOf "__init__" "Ratio.__init__" (defArgs s_Ratio___init__) (defBody s_Ratio___init__) (defScope s_Ratio___init__) .none kV_Ratio___init__ dc_Ratio___init__ pm_Ratio___init__ an_Ratio___init__ cd_Ratio___init__ ct_Ratio___init__), sl_Ratio___init__⟩)
    (c_Ratio___init__ : PySem.W.codeIn K cd_Ratio___init__ "Ratio.__init__" = true)
    (k_Ratio___init__ : PySem.W.keepIn K (.ref f_Ratio___init__) = true)
    (a_Sizes___contains__ : PySem.W.findIn K (.ref CS) "__contains__" = some (some (.ref f_Sizes___contains__)))
    (i_Sizes___contains__ : PySem.W.isFn K (.ref f_Sizes___contains__) = true)
    (l_Sizes___contains__ : K.lookup f_Sizes___contains__ = some ⟨oc_Sizes___contains__, od_Sizes___contains__, .func (PySem.W.fnOf "__contains__" "Sizes.__contains__" (defArgs s_Sizes___contains__) (defBody s_Sizes___contains__) (defScope s_Sizes___contains__) .none kV_Sizes___contains__ dc_Sizes___contains__ pm_Sizes___contains__ an_Sizes___contains__ cd_Sizes___contains__ ct_Sizes___contains__), sl_Sizes___contains__⟩)
    (c_Sizes___contains__ : PySem.W.codeIn K cd_Sizes___contains__ "Sizes.__contains__" = true)
    (k_Sizes___contains__ : PySem.W.keepIn K (.ref f_Sizes___contains__) = true)
    (a_Spot___init__ : PySem.W.findIn K (.ref CP) "__init__" = some (some (.ref f_Spot___init__)))
    (i_Spot___init__ : PySem.W.isFn K (.ref f_Spot___init__) = true)
    (l_Spot___init__ : K.lookup f_Spot___init__ = some ⟨oc_Spot___init__, od_Spot___init__, .func (PySem.W.fnOf "__init__" "Spot.__init__" (defArgs s_Spot___init__) (defBody s_Spot___init__) (defScope s_Spot___init__) .none kV_Spot___init__ dc_Spot___init__ pm_Spot___init__ an_Spot___init__ cd_Spot___init__ ct_Spot___init__), sl_Spot___init__⟩)
    (c_Spot___init__ : PySem.W.codeIn K cd_Spot___init__ "Spot.__init__" = true)
    (k_Spot___init__ : PySem.W.keepIn K (.ref f_Spot___init__) = true)
    (a__are_numbers : PySem.W.nsIn K mainGlobals "_are_numbers" = some (some (.ref f__are_numbers)))
    (l__are_numbers : K.lookup f__are_numbers = some ⟨oc__are_numbers, od__are_numbers, .func (PySem.W.fnOf "_are_numbers" "_are_numbers" (defArgs s__are_numbers) (defBody s__are_numbers) (defScope s__are_numbers) .none kV__are_numbers dc__are_numbers pm__are_numbers an__are_numbers cd__are_numbers ct__are_numbers), sl__are_numbers⟩)
    (c__are_numbers : PySem.W.codeIn K cd__are_numbers "_are_numbers" = true)
    (k__are_numbers : PySem.W.keepIn K (.ref f__are_numbers) = true)
    (a__law_take : PySem.W.nsIn K mainGlobals "_law_take" = some (some (.ref f__law_take)))
    (l__law_take : K.lookup f__law_take = some ⟨oc__law_take, od__law_take, .func (PySem.W.fnOf "_law_take" "_law_take" (defArgs s__law_take) (defBody s__law_take) (defScope s__law_take) .none kV__law_take dc__law_take pm__law_take an__law_take cd__law_take ct__law_take), sl__law_take⟩)
    (c__law_take : PySem.W.codeIn K cd__law_take "_law_take" = true)
    (k__law_take : PySem.W.keepIn K (.ref f__law_take) = true)
    (a__law_turns : PySem.W.nsIn K mainGlobals "_law_turns" = some (some (.ref f__law_turns)))
    (l__law_turns : K.lookup f__law_turns = some ⟨oc__law_turns, od__law_turns, .func (PySem.W.fnOf "_law_turns" "_law_turns" (defArgs s__law_turns) (defBody s__law_turns) (defScope s__law_turns) .none kV__law_turns dc__law_turns pm__law_turns an__law_turns cd__law_turns ct__law_turns), sl__law_turns⟩)
    (c__law_turns : PySem.W.codeIn K cd__law_turns "_law_turns" = true)
    (k__law_turns : PySem.W.keepIn K (.ref f__law_turns) = true)
    (a_behind_row : PySem.W.nsIn K mainGlobals "behind_row" = some (some (.ref f_behind_row)))
    (l_behind_row : K.lookup f_behind_row = some ⟨oc_behind_row, od_behind_row, .func (PySem.W.fnOf "behind_row" "behind_row" (defArgs s_behind_row) (defBody s_behind_row) (defScope s_behind_row) .none kV_behind_row dc_behind_row pm_behind_row an_behind_row cd_behind_row ct_behind_row), sl_behind_row⟩)
    (c_behind_row : PySem.W.codeIn K cd_behind_row "behind_row" = true)
    (k_behind_row : PySem.W.keepIn K (.ref f_behind_row) = true)
    (a_check_size : PySem.W.nsIn K mainGlobals "check_size" = some (some (.ref f_check_size)))
    (l_check_size : K.lookup f_check_size = some ⟨oc_check_size, od_check_size, .func (PySem.W.fnOf "check_size" "check_size" (defArgs s_check_size) (defBody s_check_size) (defScope s_check_size) .none kV_check_size dc_check_size pm_check_size an_check_size cd_check_size ct_check_size), sl_check_size⟩)
    (c_check_size : PySem.W.codeIn K cd_check_size "check_size" = true)
    (k_check_size : PySem.W.keepIn K (.ref f_check_size) = true)
    (a_is_back : PySem.W.nsIn K mainGlobals "is_back" = some (some (.ref f_is_back)))
    (l_is_back : K.lookup f_is_back = some ⟨oc_is_back, od_is_back, .func (PySem.W.fnOf "is_back" "is_back" (defArgs s_is_back) (defBody s_is_back) (defScope s_is_back) .none kV_is_back dc_is_back pm_is_back an_is_back cd_is_back ct_is_back), sl_is_back⟩)
    (c_is_back : PySem.W.codeIn K cd_is_back "is_back" = true)
    (k_is_back : PySem.W.keepIn K (.ref f_is_back) = true)
    (a_is_cell : PySem.W.nsIn K mainGlobals "is_cell" = some (some (.ref f_is_cell)))
    (l_is_cell : K.lookup f_is_cell = some ⟨oc_is_cell, od_is_cell, .func (PySem.W.fnOf "is_cell" "is_cell" (defArgs s_is_cell) (defBody s_is_cell) (defScope s_is_cell) .none kV_is_cell dc_is_cell pm_is_cell an_is_cell cd_is_cell ct_is_cell), sl_is_cell⟩)
    (c_is_cell : PySem.W.codeIn K cd_is_cell "is_cell" = true)
    (k_is_cell : PySem.W.keepIn K (.ref f_is_cell) = true)
    (a_is_steady : PySem.W.nsIn K mainGlobals "is_steady" = some (some (.ref f_is_steady)))
    (l_is_steady : K.lookup f_is_steady = some ⟨oc_is_steady, od_is_steady, .func (PySem.W.fnOf "is_steady" "is_steady" (defArgs s_is_steady) (defBody s_is_steady) (defScope s_is_steady) .none kV_is_steady dc_is_steady pm_is_steady an_is_steady cd_is_steady ct_is_steady), sl_is_steady⟩)
    (c_is_steady : PySem.W.codeIn K cd_is_steady "is_steady" = true)
    (k_is_steady : PySem.W.keepIn K (.ref f_is_steady) = true)
    (a_least_form : PySem.W.nsIn K mainGlobals "least_form" = some (some (.ref f_least_form)))
    (l_least_form : K.lookup f_least_form = some ⟨oc_least_form, od_least_form, .func (PySem.W.fnOf "least_form" "least_form" (defArgs s_least_form) (defBody s_least_form) (defScope s_least_form) .none kV_least_form dc_least_form pm_least_form an_least_form cd_least_form ct_least_form), sl_least_form⟩)
    (c_least_form : PySem.W.codeIn K cd_least_form "least_form" = true)
    (k_least_form : PySem.W.keepIn K (.ref f_least_form) = true)
    (a_set_form : PySem.W.nsIn K mainGlobals "set_form" = some (some (.ref f_set_form)))
    (l_set_form : K.lookup f_set_form = some ⟨oc_set_form, od_set_form, .func (PySem.W.fnOf "set_form" "set_form" (defArgs s_set_form) (defBody s_set_form) (defScope s_set_form) .none kV_set_form dc_set_form pm_set_form an_set_form cd_set_form ct_set_form), sl_set_form⟩)
    (c_set_form : PySem.W.codeIn K cd_set_form "set_form" = true)
    (k_set_form : PySem.W.keepIn K (.ref f_set_form) = true)
    (a_shared_period : PySem.W.nsIn K mainGlobals "shared_period" = some (some (.ref f_shared_period)))
    (l_shared_period : K.lookup f_shared_period = some ⟨oc_shared_period, od_shared_period, .func (PySem.W.fnOf "shared_period" "shared_period" (defArgs s_shared_period) (defBody s_shared_period) (defScope s_shared_period) .none kV_shared_period dc_shared_period pm_shared_period an_shared_period cd_shared_period ct_shared_period), sl_shared_period⟩)
    (c_shared_period : PySem.W.codeIn K cd_shared_period "shared_period" = true)
    (k_shared_period : PySem.W.keepIn K (.ref f_shared_period) = true)
    (a_trouble_of : PySem.W.nsIn K mainGlobals "trouble_of" = some (some (.ref f_trouble_of)))
    (l_trouble_of : K.lookup f_trouble_of = some ⟨oc_trouble_of, od_trouble_of, .func (PySem.W.fnOf "trouble_of" "trouble_of" (defArgs s_trouble_of) (defBody s_trouble_of) (defScope s_trouble_of) .none kV_trouble_of dc_trouble_of pm_trouble_of an_trouble_of cd_trouble_of ct_trouble_of), sl_trouble_of⟩)
    (c_trouble_of : PySem.W.codeIn K cd_trouble_of "trouble_of" = true)
    (k_trouble_of : PySem.W.keepIn K (.ref f_trouble_of) = true)
    (a_turns_of : PySem.W.nsIn K mainGlobals "turns_of" = some (some (.ref f_turns_of)))
    (l_turns_of : K.lookup f_turns_of = some ⟨oc_turns_of, od_turns_of, .func (PySem.W.fnOf "turns_of" "turns_of" (defArgs s_turns_of) (defBody s_turns_of) (defScope s_turns_of) .none kV_turns_of dc_turns_of pm_turns_of an_turns_of cd_turns_of ct_turns_of), sl_turns_of⟩)
    (c_turns_of : PySem.W.codeIn K cd_turns_of "turns_of" = true)
    (k_turns_of : PySem.W.keepIn K (.ref f_turns_of) = true)
    (a_Sizes___init__ : PySem.W.findIn K (.ref CS) "__init__" = some (some (.ref f_Sizes___init__)))
    (i_Sizes___init__ : PySem.W.isFn K (.ref f_Sizes___init__) = true)
    (l_Sizes___init__ : K.lookup f_Sizes___init__ = some ⟨oc_Sizes___init__, od_Sizes___init__, .func (PySem.W.fnOf "__init__" "Sizes.__init__" (defArgs s_Sizes___init__) (defBody s_Sizes___init__) (defScope s_Sizes___init__) .none kV_Sizes___init__ dc_Sizes___init__ pm_Sizes___init__ an_Sizes___init__ cd_Sizes___init__ ct_Sizes___init__), sl_Sizes___init__⟩)
    (c_Sizes___init__ : PySem.W.codeIn K cd_Sizes___init__ "Sizes.__init__" = true)
    (k_Sizes___init__ : PySem.W.keepIn K (.ref f_Sizes___init__) = true)
    (a__law_pick : PySem.W.nsIn K mainGlobals "_law_pick" = some (some (.ref f__law_pick)))
    (l__law_pick : K.lookup f__law_pick = some ⟨oc__law_pick, od__law_pick, .func (PySem.W.fnOf "_law_pick" "_law_pick" (defArgs s__law_pick) (defBody s__law_pick) (defScope s__law_pick) .none kV__law_pick dc__law_pick pm__law_pick an__law_pick cd__law_pick ct__law_pick), sl__law_pick⟩)
    (c__law_pick : PySem.W.codeIn K cd__law_pick "_law_pick" = true)
    (k__law_pick : PySem.W.keepIn K (.ref f__law_pick) = true)
    (a_is_word : PySem.W.nsIn K mainGlobals "is_word" = some (some (.ref f_is_word)))
    (l_is_word : K.lookup f_is_word = some ⟨oc_is_word, od_is_word, .func (PySem.W.fnOf "is_word" "is_word" (defArgs s_is_word) (defBody s_is_word) (defScope s_is_word) .none kV_is_word dc_is_word pm_is_word an_is_word cd_is_word ct_is_word), sl_is_word⟩)
    (c_is_word : PySem.W.codeIn K cd_is_word "is_word" = true)
    (k_is_word : PySem.W.keepIn K (.ref f_is_word) = true)
    (a_round_of : PySem.W.nsIn K mainGlobals "round_of" = some (some (.ref f_round_of)))
    (l_round_of : K.lookup f_round_of = some ⟨oc_round_of, od_round_of, .func (PySem.W.fnOf "round_of" "round_of" (defArgs s_round_of) (defBody s_round_of) (defScope s_round_of) .none kV_round_of dc_round_of pm_round_of an_round_of cd_round_of ct_round_of), sl_round_of⟩)
    (c_round_of : PySem.W.codeIn K cd_round_of "round_of" = true)
    (k_round_of : PySem.W.keepIn K (.ref f_round_of) = true)
    (a_worked : PySem.W.nsIn K mainGlobals "worked" = some (some (.ref f_worked)))
    (l_worked : K.lookup f_worked = some ⟨oc_worked, od_worked, .func (PySem.W.fnOf "worked" "worked" (defArgs s_worked) (defBody s_worked) (defScope s_worked) .none kV_worked dc_worked pm_worked an_worked cd_worked ct_worked), sl_worked⟩)
    (c_worked : PySem.W.codeIn K cd_worked "worked" = true)
    (k_worked : PySem.W.keepIn K (.ref f_worked) = true)
    (a_Ratio_plus : PySem.W.findIn K (.ref CR) "plus" = some (some (.ref f_Ratio_plus)))
    (i_Ratio_plus : PySem.W.isFn K (.ref f_Ratio_plus) = true)
    (l_Ratio_plus : K.lookup f_Ratio_plus = some ⟨oc_Ratio_plus, od_Ratio_plus, .func (PySem.W.fnOf "plus" "Ratio.plus" (defArgs s_Ratio_plus) (defBody s_Ratio_plus) (defScope s_Ratio_plus) .none kV_Ratio_plus dc_Ratio_plus pm_Ratio_plus an_Ratio_plus cd_Ratio_plus ct_Ratio_plus), sl_Ratio_plus⟩)
    (c_Ratio_plus : PySem.W.codeIn K cd_Ratio_plus "Ratio.plus" = true)
    (k_Ratio_plus : PySem.W.keepIn K (.ref f_Ratio_plus) = true)
    (a__law_steady_rows : PySem.W.nsIn K mainGlobals "_law_steady_rows" = some (some (.ref f__law_steady_rows)))
    (l__law_steady_rows : K.lookup f__law_steady_rows = some ⟨oc__law_steady_rows, od__law_steady_rows, .func (PySem.W.fnOf "_law_steady_rows" "_law_steady_rows" (defArgs s__law_steady_rows) (defBody s__law_steady_rows) (defScope s__law_steady_rows) .none kV__law_steady_rows dc__law_steady_rows pm__law_steady_rows an__law_steady_rows cd__law_steady_rows ct__law_steady_rows), sl__law_steady_rows⟩)
    (c__law_steady_rows : PySem.W.codeIn K cd__law_steady_rows "_law_steady_rows" = true)
    (k__law_steady_rows : PySem.W.keepIn K (.ref f__law_steady_rows) = true)
    (a_is_row : PySem.W.nsIn K mainGlobals "is_row" = some (some (.ref f_is_row)))
    (l_is_row : K.lookup f_is_row = some ⟨oc_is_row, od_is_row, .func (PySem.W.fnOf "is_row" "is_row" (defArgs s_is_row) (defBody s_is_row) (defScope s_is_row) .none kV_is_row dc_is_row pm_is_row an_is_row cd_is_row ct_is_row), sl_is_row⟩)
    (c_is_row : PySem.W.codeIn K cd_is_row "is_row" = true)
    (k_is_row : PySem.W.keepIn K (.ref f_is_row) = true)
    (a_of_line : PySem.W.nsIn K mainGlobals "of_line" = some (some (.ref f_of_line)))
    (l_of_line : K.lookup f_of_line = some ⟨oc_of_line, od_of_line, .func (PySem.W.fnOf "of_line" "of_line" (defArgs s_of_line) (defBody s_of_line) (defScope s_of_line) .none kV_of_line dc_of_line pm_of_line an_of_line cd_of_line ct_of_line), sl_of_line⟩)
    (c_of_line : PySem.W.codeIn K cd_of_line "of_line" = true)
    (k_of_line : PySem.W.keepIn K (.ref f_of_line) = true)
    (a_sent_round : PySem.W.nsIn K mainGlobals "sent_round" = some (some (.ref f_sent_round)))
    (l_sent_round : K.lookup f_sent_round = some ⟨oc_sent_round, od_sent_round, .func (PySem.W.fnOf "sent_round" "sent_round" (defArgs s_sent_round) (defBody s_sent_round) (defScope s_sent_round) .none kV_sent_round dc_sent_round pm_sent_round an_sent_round cd_sent_round ct_sent_round), sl_sent_round⟩)
    (c_sent_round : PySem.W.codeIn K cd_sent_round "sent_round" = true)
    (k_sent_round : PySem.W.keepIn K (.ref f_sent_round) = true)
    (a_Ratio_where_divides : PySem.W.findIn K (.ref CR) "where_divides" = some (some (.ref f_Ratio_where_divides)))
    (i_Ratio_where_divides : PySem.W.isFn K (.ref f_Ratio_where_divides) = true)
    (l_Ratio_where_divides : K.lookup f_Ratio_where_divides = some ⟨oc_Ratio_where_divides, od_Ratio_where_divides, .func (PySem.W.fnOf "where_divides" "Ratio.where_divides" (defArgs s_Ratio_where_divides) (defBody s_Ratio_where_divides) (defScope s_Ratio_where_divides) .none kV_Ratio_where_divides dc_Ratio_where_divides pm_Ratio_where_divides an_Ratio_where_divides cd_Ratio_where_divides ct_Ratio_where_divides), sl_Ratio_where_divides⟩)
    (c_Ratio_where_divides : PySem.W.codeIn K cd_Ratio_where_divides "Ratio.where_divides" = true)
    (k_Ratio_where_divides : PySem.W.keepIn K (.ref f_Ratio_where_divides) = true)
    (a_Sizes___and__ : PySem.W.findIn K (.ref CS) "__and__" = some (some (.ref f_Sizes___and__)))
    (i_Sizes___and__ : PySem.W.isFn K (.ref f_Sizes___and__) = true)
    (l_Sizes___and__ : K.lookup f_Sizes___and__ = some ⟨oc_Sizes___and__, od_Sizes___and__, .func (PySem.W.fnOf "__and__" "Sizes.__and__" (defArgs s_Sizes___and__) (defBody s_Sizes___and__) (defScope s_Sizes___and__) .none kV_Sizes___and__ dc_Sizes___and__ pm_Sizes___and__ an_Sizes___and__ cd_Sizes___and__ ct_Sizes___and__), sl_Sizes___and__⟩)
    (c_Sizes___and__ : PySem.W.codeIn K cd_Sizes___and__ "Sizes.__and__" = true)
    (k_Sizes___and__ : PySem.W.keepIn K (.ref f_Sizes___and__) = true)
    (a_Sizes___sub__ : PySem.W.findIn K (.ref CS) "__sub__" = some (some (.ref f_Sizes___sub__)))
    (i_Sizes___sub__ : PySem.W.isFn K (.ref f_Sizes___sub__) = true)
    (l_Sizes___sub__ : K.lookup f_Sizes___sub__ = some ⟨oc_Sizes___sub__, od_Sizes___sub__, .func (PySem.W.fnOf "__sub__" "Sizes.__sub__" (defArgs s_Sizes___sub__) (defBody s_Sizes___sub__) (defScope s_Sizes___sub__) .none kV_Sizes___sub__ dc_Sizes___sub__ pm_Sizes___sub__ an_Sizes___sub__ cd_Sizes___sub__ ct_Sizes___sub__), sl_Sizes___sub__⟩)
    (c_Sizes___sub__ : PySem.W.codeIn K cd_Sizes___sub__ "Sizes.__sub__" = true)
    (k_Sizes___sub__ : PySem.W.keepIn K (.ref f_Sizes___sub__) = true)
    (a_all_sizes : PySem.W.nsIn K mainGlobals "all_sizes" = some (some (.ref f_all_sizes)))
    (l_all_sizes : K.lookup f_all_sizes = some ⟨oc_all_sizes, od_all_sizes, .func (PySem.W.fnOf "all_sizes" "all_sizes" (defArgs s_all_sizes) (defBody s_all_sizes) (defScope s_all_sizes) .none kV_all_sizes dc_all_sizes pm_all_sizes an_all_sizes cd_all_sizes ct_all_sizes), sl_all_sizes⟩)
    (c_all_sizes : PySem.W.codeIn K cd_all_sizes "all_sizes" = true)
    (k_all_sizes : PySem.W.keepIn K (.ref f_all_sizes) = true)
    (a_check_row : PySem.W.nsIn K mainGlobals "check_row" = some (some (.ref f_check_row)))
    (l_check_row : K.lookup f_check_row = some ⟨oc_check_row, od_check_row, .func (PySem.W.fnOf "check_row" "check_row" (defArgs s_check_row) (defBody s_check_row) (defScope s_check_row) .none kV_check_row dc_check_row pm_check_row an_check_row cd_check_row ct_check_row), sl_check_row⟩)
    (c_check_row : PySem.W.codeIn K cd_check_row "check_row" = true)
    (k_check_row : PySem.W.keepIn K (.ref f_check_row) = true)
    (a_from_marks : PySem.W.nsIn K mainGlobals "from_marks" = some (some (.ref f_from_marks)))
    (l_from_marks : K.lookup f_from_marks = some ⟨oc_from_marks, od_from_marks, .func (PySem.W.fnOf "from_marks" "from_marks" (defArgs s_from_marks) (defBody s_from_marks) (defScope s_from_marks) .none kV_from_marks dc_from_marks pm_from_marks an_from_marks cd_from_marks ct_from_marks), sl_from_marks⟩)
    (c_from_marks : PySem.W.codeIn K cd_from_marks "from_marks" = true)
    (k_from_marks : PySem.W.keepIn K (.ref f_from_marks) = true)
    (a_from_on : PySem.W.nsIn K mainGlobals "from_on" = some (some (.ref f_from_on)))
    (l_from_on : K.lookup f_from_on = some ⟨oc_from_on, od_from_on, .func (PySem.W.fnOf "from_on" "from_on" (defArgs s_from_on) (defBody s_from_on) (defScope s_from_on) .none kV_from_on dc_from_on pm_from_on an_from_on cd_from_on ct_from_on), sl_from_on⟩)
    (c_from_on : PySem.W.codeIn K cd_from_on "from_on" = true)
    (k_from_on : PySem.W.keepIn K (.ref f_from_on) = true)
    (a_Ratio_where_least : PySem.W.findIn K (.ref CR) "where_least" = some (some (.ref f_Ratio_where_least)))
    (i_Ratio_where_least : PySem.W.isFn K (.ref f_Ratio_where_least) = true)
    (l_Ratio_where_least : K.lookup f_Ratio_where_least = some ⟨oc_Ratio_where_least, od_Ratio_where_least, .func (PySem.W.fnOf "where_least" "Ratio.where_least" (defArgs s_Ratio_where_least) (defBody s_Ratio_where_least) (defScope s_Ratio_where_least) .none kV_Ratio_where_least dc_Ratio_where_least pm_Ratio_where_least an_Ratio_where_least cd_Ratio_where_least ct_Ratio_where_least), sl_Ratio_where_least⟩)
    (c_Ratio_where_least : PySem.W.codeIn K cd_Ratio_where_least "Ratio.where_least" = true)
    (k_Ratio_where_least : PySem.W.keepIn K (.ref f_Ratio_where_least) = true)
    (a_Sizes_within : PySem.W.findIn K (.ref CS) "within" = some (some (.ref f_Sizes_within)))
    (i_Sizes_within : PySem.W.isFn K (.ref f_Sizes_within) = true)
    (l_Sizes_within : K.lookup f_Sizes_within = some ⟨oc_Sizes_within, od_Sizes_within, .func (PySem.W.fnOf "within" "Sizes.within" (defArgs s_Sizes_within) (defBody s_Sizes_within) (defScope s_Sizes_within) .none kV_Sizes_within dc_Sizes_within pm_Sizes_within an_Sizes_within cd_Sizes_within ct_Sizes_within), sl_Sizes_within⟩)
    (c_Sizes_within : PySem.W.codeIn K cd_Sizes_within "Sizes.within" = true)
    (k_Sizes_within : PySem.W.keepIn K (.ref f_Sizes_within) = true)
    (a_check_steady : PySem.W.nsIn K mainGlobals "check_steady" = some (some (.ref f_check_steady)))
    (l_check_steady : K.lookup f_check_steady = some ⟨oc_check_steady, od_check_steady, .func (PySem.W.fnOf "check_steady" "check_steady" (defArgs s_check_steady) (defBody s_check_steady) (defScope s_check_steady) .none kV_check_steady dc_check_steady pm_check_steady an_check_steady cd_check_steady ct_check_steady), sl_check_steady⟩)
    (c_check_steady : PySem.W.codeIn K cd_check_steady "check_steady" = true)
    (k_check_steady : PySem.W.keepIn K (.ref f_check_steady) = true)
    (a_fitting : PySem.W.nsIn K mainGlobals "fitting" = some (some (.ref f_fitting)))
    (l_fitting : K.lookup f_fitting = some ⟨oc_fitting, od_fitting, .func (PySem.W.fnOf "fitting" "fitting" (defArgs s_fitting) (defBody s_fitting) (defScope s_fitting) .none kV_fitting dc_fitting pm_fitting an_fitting cd_fitting ct_fitting), sl_fitting⟩)
    (c_fitting : PySem.W.codeIn K cd_fitting "fitting" = true)
    (k_fitting : PySem.W.keepIn K (.ref f_fitting) = true)
    (a_sent : PySem.W.nsIn K mainGlobals "sent" = some (some (.ref f_sent)))
    (l_sent : K.lookup f_sent = some ⟨oc_sent, od_sent, .func (PySem.W.fnOf "sent" "sent" (defArgs s_sent) (defBody s_sent) (defScope s_sent) (.ref T_sent) kV_sent dc_sent pm_sent an_sent cd_sent ct_sent), sl_sent⟩)
    (c_sent : PySem.W.codeIn K cd_sent "sent" = true)
    (k_sent : PySem.W.keepIn K (.ref f_sent) = true)
    (d_sent : K.lookup T_sent = some ⟨oT_sent, dT_sent, .seq #[.str "round" tk_sent] nT_sent, sT_sent⟩)
    (a_back_after : PySem.W.nsIn K mainGlobals "back_after" = some (some (.ref f_back_after)))
    (l_back_after : K.lookup f_back_after = some ⟨oc_back_after, od_back_after, .func (PySem.W.fnOf "back_after" "back_after" (defArgs s_back_after) (defBody s_back_after) (defScope s_back_after) (.ref T_back_after) kV_back_after dc_back_after pm_back_after an_back_after cd_back_after ct_back_after), sl_back_after⟩)
    (c_back_after : PySem.W.codeIn K cd_back_after "back_after" = true)
    (k_back_after : PySem.W.keepIn K (.ref f_back_after) = true)
    (d_back_after : K.lookup T_back_after = some ⟨oT_back_after, dT_back_after, .seq #[.str "round" tk_back_after] nT_back_after, sT_back_after⟩)
    (a_where_fits : PySem.W.nsIn K mainGlobals "where_fits" = some (some (.ref f_where_fits)))
    (l_where_fits : K.lookup f_where_fits = some ⟨oc_where_fits, od_where_fits, .func (PySem.W.fnOf "where_fits" "where_fits" (defArgs s_where_fits) (defBody s_where_fits) (defScope s_where_fits) .none kV_where_fits dc_where_fits pm_where_fits an_where_fits cd_where_fits ct_where_fits), sl_where_fits⟩)
    (c_where_fits : PySem.W.codeIn K cd_where_fits "where_fits" = true)
    (k_where_fits : PySem.W.keepIn K (.ref f_where_fits) = true)
    (a_where_back : PySem.W.nsIn K mainGlobals "where_back" = some (some (.ref f_where_back)))
    (l_where_back : K.lookup f_where_back = some ⟨oc_where_back, od_where_back, .func (PySem.W.fnOf "where_back" "where_back" (defArgs s_where_back) (defBody s_where_back) (defScope s_where_back) (.ref T_where_back) kV_where_back dc_where_back pm_where_back an_where_back cd_where_back ct_where_back), sl_where_back⟩)
    (c_where_back : PySem.W.codeIn K cd_where_back "where_back" = true)
    (k_where_back : PySem.W.keepIn K (.ref f_where_back) = true)
    (d_where_back : K.lookup T_where_back = some ⟨oT_where_back, dT_where_back, .seq #[.str "round" tk_where_back] nT_where_back, sT_where_back⟩)
    (a_law : PySem.W.nsIn K mainGlobals "law" = some (some (.ref f_law)))
    (l_law : K.lookup f_law = some ⟨oc_law, od_law, .func (PySem.W.fnOf "law" "law" (defArgs s_law) (defBody s_law) (defScope s_law) .none kV_law dc_law pm_law an_law cd_law ct_law), sl_law⟩)
    (c_law : PySem.W.codeIn K cd_law "law" = true)
    (k_law : PySem.W.keepIn K (.ref f_law) = true)
    (z_len : PySem.W.nsIn K mainGlobals "len" = some none)
    (z_sum : PySem.W.nsIn K mainGlobals "sum" = some none)
    (z_all : PySem.W.nsIn K mainGlobals "all" = some none)
    (z_max : PySem.W.nsIn K mainGlobals "max" = some none)
    (z_abs : PySem.W.nsIn K mainGlobals "abs" = some none)
    (z_isinstance : PySem.W.nsIn K mainGlobals "isinstance" = some none)
    (z_sorted : PySem.W.nsIn K mainGlobals "sorted" = some none)
    (z_int : PySem.W.nsIn K mainGlobals "int" = some none)
    (z_tuple : PySem.W.nsIn K mainGlobals "tuple" = some none)
    (z_list : PySem.W.nsIn K mainGlobals "list" = some none)
    (z_range : PySem.W.nsIn K mainGlobals "range" = some none)
    (z_zip : PySem.W.nsIn K mainGlobals "zip" = some none)
    (z_enumerate : PySem.W.nsIn K mainGlobals "enumerate" = some none)
    (z_bool : PySem.W.nsIn K mainGlobals "bool" = some none)
    (z_str : PySem.W.nsIn K mainGlobals "str" = some none)
    (v_MOST_PERIOD_sizes : PySem.W.nsIn K mainGlobals "MOST_PERIOD_sizes" = some (some (.int 5040 tc_MOST_PERIOD_sizes)))
    (v_MOST_CELLS : PySem.W.nsIn K mainGlobals "MOST_CELLS" = some (some (.int 60 tc_MOST_CELLS)))
    (v_MOST_REST : PySem.W.nsIn K mainGlobals "MOST_REST" = some (some (.int 30 tc_MOST_REST)))
    (v_MOST_MOVES : PySem.W.nsIn K mainGlobals "MOST_MOVES" = some (some (.int 24 tc_MOST_MOVES)))
    (v_MOST_ROWS : PySem.W.nsIn K mainGlobals "MOST_ROWS" = some (some (.int 6 tc_MOST_ROWS)))
    (v_MOST_PERIOD_crossing : PySem.W.nsIn K mainGlobals "MOST_PERIOD_crossing" = some (some (.int 24 tc_MOST_PERIOD_crossing)))
    (kd1 : K.lookup kd = some ⟨.type "dict", none, .dict es nkd, #[]⟩)
    (kd2 : PySem.W.KeysLit w.params es.toList)
    (kd3 : (kd == sysModules) = false)
    (kn_k : PySem.W.nsIn K kd "k" = some (some (.ref q_k)))
    (kl_k : K.lookup q_k = some ⟨.type "tuple", qd_k, .seq #[.int 1 qa_k, .int 1 qb_k, .str "p" qc_k, .str "k" qe_k] qn_k, qs_k⟩)
    (kn_p : PySem.W.nsIn K kd "p" = some (some (.ref q_p)))
    (kl_p : K.lookup q_p = some ⟨.type "tuple", qd_p, .seq #[.int 1 qa_p, .int 1 qb_p, .str "k" qc_p, .str "p" qe_p] qn_p, qs_p⟩)
    (kn_c2f : PySem.W.nsIn K kd "c2f" = some (some (.ref q_c2f)))
    (kl_c2f : K.lookup q_c2f = some ⟨.type "tuple", qd_c2f, .seq #[.int 2 qa_c2f, .int 2 qb_c2f, .str "c2fw" qc_c2f, .str "c2b" qe_c2f] qn_c2f, qs_c2f⟩)
    (kn_c2b : PySem.W.nsIn K kd "c2b" = some (some (.ref q_c2b)))
    (kl_c2b : K.lookup q_c2b = some ⟨.type "tuple", qd_c2b, .seq #[.int 2 qa_c2b, .int 2 qb_c2b, .str "c2bw" qc_c2b, .str "c2f" qe_c2b] qn_c2b, qs_c2b⟩)
    (kn_c2fw : PySem.W.nsIn K kd "c2fw" = some (some (.ref q_c2fw)))
    (kl_c2fw : K.lookup q_c2fw = some ⟨.type "tuple", qd_c2fw, .seq #[.int 2 qa_c2fw, .int 2 qb_c2fw, .str "c2f" qc_c2fw, .str "c2bw" qe_c2fw] qn_c2fw, qs_c2fw⟩)
    (kn_c2bw : PySem.W.nsIn K kd "c2bw" = some (some (.ref q_c2bw)))
    (kl_c2bw : K.lookup q_c2bw = some ⟨.type "tuple", qd_c2bw, .seq #[.int 2 qa_c2bw, .int 2 qb_c2bw, .str "c2b" qc_c2bw, .str "c2fw" qe_c2bw] qn_c2bw, qs_c2bw⟩)
    (kn_c4f : PySem.W.nsIn K kd "c4f" = some (some (.ref q_c4f)))
    (kl_c4f : K.lookup q_c4f = some ⟨.type "tuple", qd_c4f, .seq #[.int 4 qa_c4f, .int 4 qb_c4f, .str "c4fw" qc_c4f, .str "c4b" qe_c4f] qn_c4f, qs_c4f⟩)
    (kn_c4b : PySem.W.nsIn K kd "c4b" = some (some (.ref q_c4b)))
    (kl_c4b : K.lookup q_c4b = some ⟨.type "tuple", qd_c4b, .seq #[.int 4 qa_c4b, .int 4 qb_c4b, .str "c4bw" qc_c4b, .str "c4f" qe_c4b] qn_c4b, qs_c4b⟩)
    (kn_c4fw : PySem.W.nsIn K kd "c4fw" = some (some (.ref q_c4fw)))
    (kl_c4fw : K.lookup q_c4fw = some ⟨.type "tuple", qd_c4fw, .seq #[.int 4 qa_c4fw, .int 4 qb_c4fw, .str "c4f" qc_c4fw, .str "c4bw" qe_c4fw] qn_c4fw, qs_c4fw⟩)
    (kn_c4bw : PySem.W.nsIn K kd "c4bw" = some (some (.ref q_c4bw)))
    (kl_c4bw : K.lookup q_c4bw = some ⟨.type "tuple", qd_c4bw, .seq #[.int 4 qa_c4bw, .int 4 qb_c4bw, .str "c4b" qc_c4bw, .str "c4fw" qe_c4bw] qn_c4bw, qs_c4bw⟩)
    (CS_pg : PySem.W.plainGet K CS Str.empty = true)
    (CS_hd : PySem.W.hasDictIn K CS = true)
    (CS_po : PySem.W.plainOver K CS = true)
    (CS_sa : PySem.W.findIn K (.ref CS) "__setattr__" = some (some (.builtin "object.__setattr__")))
    (CS_mk : PySem.W.makesIn K CS = true)
    (CS_kc : PySem.W.keepIn K (.ref CS) = true)
    (CS_n_form : PySem.W.findIn K (.ref CS) "form" = some none)
    (CS_n_early : PySem.W.findIn K (.ref CS) "early" = some none)
    (CS_n_start : PySem.W.findIn K (.ref CS) "start" = some none)
    (CS_n_period : PySem.W.findIn K (.ref CS) "period" = some none)
    (CS_n_later : PySem.W.findIn K (.ref CS) "later" = some none)
    (CR_pg : PySem.W.plainGet K CR Str.empty = true)
    (CR_hd : PySem.W.hasDictIn K CR = true)
    (CR_po : PySem.W.plainOver K CR = true)
    (CR_sa : PySem.W.findIn K (.ref CR) "__setattr__" = some (some (.builtin "object.__setattr__")))
    (CR_mk : PySem.W.makesIn K CR = true)
    (CR_kc : PySem.W.keepIn K (.ref CR) = true)
    (CR_n_base : PySem.W.findIn K (.ref CR) "base" = some none)
    (CR_n_rise : PySem.W.findIn K (.ref CR) "rise" = some none)
    (CR_n_below : PySem.W.findIn K (.ref CR) "below" = some none)
    (CP_pg : PySem.W.plainGet K CP Str.empty = true)
    (CP_hd : PySem.W.hasDictIn K CP = true)
    (CP_po : PySem.W.plainOver K CP = true)
    (CP_sa : PySem.W.findIn K (.ref CP) "__setattr__" = some (some (.builtin "object.__setattr__")))
    (CP_mk : PySem.W.makesIn K CP = true)
    (CP_kc : PySem.W.keepIn K (.ref CP) = true)
    (CP_n_part : PySem.W.findIn K (.ref CP) "part" = some none)
    (CP_n_place : PySem.W.findIn K (.ref CP) "place" = some none)
    (CP_n_row : PySem.W.findIn K (.ref CP) "row" = some none)
    (CP_n_loops : PySem.W.findIn K (.ref CP) "loops" = some none)
    (CP_n_need : PySem.W.findIn K (.ref CP) "need" = some none)
    (selfS : PySem.W.selfFirst K CS = true)
    (neS : PySem.W.findIn K (.ref CS) "__ne__" = some (some (.builtin "object.__ne__")))
    (subS : PySem.W.subIn K (.ref CS) (.type "object") = some true)
    (ins1 : PySem.W.findIn K (.ref CS) "__class__" = some (some (.builtin "object.__class__")))
    (ins2 : PySem.W.specialIn K (.builtin "object.__class__") "__get__" = some (some (.builtin "getset_descriptor.__get__")))
    (ins3 : PySem.W.takesIn K (.builtin "object.__class__") = some true)
    (ins4 : PySem.W.mroIn K CS (.type "object") = some true) :
    ∃ fd : FuncData, (∀ (s : Shared) (v : Value), BindsTo s fd ⟨[v], []⟩ [("_law_script", v)]) ∧ ∀ base : Heap, K.In base → base.Ns mainGlobals mg → FnOk l.prog w K mg base CX0 10 fa fd ["_law_script"] (spF K P_law) := by
  have e := hfa.symm.trans (PySem.W.mg_of X G a_law)
  cases e
  have T : Txt K w mg kd CS CR CP := {
    n_len := PySem.W.mg_none_of X G z_len
    n_sum := PySem.W.mg_none_of X G z_sum
    n_all := PySem.W.mg_none_of X G z_all
    n_max := PySem.W.mg_none_of X G z_max
    n_abs := PySem.W.mg_none_of X G z_abs
    n_isinstance := PySem.W.mg_none_of X G z_isinstance
    n_sorted := PySem.W.mg_none_of X G z_sorted
    n_int := PySem.W.mg_none_of X G z_int
    n_tuple := PySem.W.mg_none_of X G z_tuple
    n_list := PySem.W.mg_none_of X G z_list
    n_range := PySem.W.mg_none_of X G z_range
    n_zip := PySem.W.mg_none_of X G z_zip
    n_enumerate := PySem.W.mg_none_of X G z_enumerate
    n_bool := PySem.W.mg_none_of X G z_bool
    n_str := PySem.W.mg_none_of X G z_str
    g_KINDS := PySem.W.mg_of X G gK
    g_Sizes := PySem.W.mg_of X G gCS
    g_MOST_PERIOD_sizes := ⟨_, PySem.W.mg_of X G v_MOST_PERIOD_sizes, _, rfl⟩
    g_MOST_CELLS := ⟨_, PySem.W.mg_of X G v_MOST_CELLS, _, rfl⟩
    g_MOST_REST := ⟨_, PySem.W.mg_of X G v_MOST_REST, _, rfl⟩
    g_MOST_MOVES := ⟨_, PySem.W.mg_of X G v_MOST_MOVES, _, rfl⟩
    g_MOST_ROWS := ⟨_, PySem.W.mg_of X G v_MOST_ROWS, _, rfl⟩
    g_MOST_PERIOD_crossing := ⟨_, PySem.W.mg_of X G v_MOST_PERIOD_crossing, _, rfl⟩
    kdict := ⟨es, nkd, kd1, kd2, kd3⟩
    kat := fun k => match k with
      | .k => kat_of (k := .k) kn_k kl_k
      | .p => kat_of (k := .p) kn_p kl_p
      | .c2f => kat_of (k := .c2f) kn_c2f kl_c2f
      | .c2b => kat_of (k := .c2b) kn_c2b kl_c2b
      | .c2fw => kat_of (k := .c2fw) kn_c2fw kl_c2fw
      | .c2bw => kat_of (k := .c2bw) kn_c2bw kl_c2bw
      | .c4f => kat_of (k := .c4f) kn_c4f kl_c4f
      | .c4b => kat_of (k := .c4b) kn_c4b kl_c4b
      | .c4fw => kat_of (k := .c4fw) kn_c4fw kl_c4fw
      | .c4bw => kat_of (k := .c4bw) kn_c4bw kl_c4bw
    cS := ⟨CS_pg, CS_hd, CS_po, CS_sa⟩
    aS_form := CS_n_form
    aS_early := CS_n_early
    aS_start := CS_n_start
    aS_period := CS_n_period
    aS_later := CS_n_later
    cR := ⟨CR_pg, CR_hd, CR_po, CR_sa⟩
    aR_base := CR_n_base
    aR_rise := CR_n_rise
    aR_below := CR_n_below
    cP := ⟨CP_pg, CP_hd, CP_po, CP_sa⟩
    aP_part := CP_n_part
    aP_place := CP_n_place
    aP_row := CP_n_row
    aP_loops := CP_n_loops
    aP_need := CP_n_need
    selfS := selfS
    neS := neS
    subS := subS
    insS := ⟨⟨CS_pg, CS_hd, CS_po, CS_sa⟩, ins1, ins2, ins3, ins4, kit_self⟩ }
  have F_Sizes___bool__ := fun_mk (st := s_Sizes___bool__) l_Sizes___bool__ c_Sizes___bool__ k_Sizes___bool__
  have b_Sizes___bool__ := F_Sizes___bool__.binds (ps := ["self"]) fun _ _ _ _ _ _ us hl => match us, hl with | [_], _ => rfl
  have F_Sizes___eq__ := fun_mk (st := s_Sizes___eq__) l_Sizes___eq__ c_Sizes___eq__ k_Sizes___eq__
  have b_Sizes___eq__ := F_Sizes___eq__.binds (ps := ["self", "other"]) fun _ _ _ _ _ _ us hl => match us, hl with | [_, _], _ => rfl
  have F__law_kinds := fun_mk (st := s__law_kinds) l__law_kinds c__law_kinds k__law_kinds
  have b__law_kinds := F__law_kinds.binds (ps := []) fun _ _ _ _ _ _ us hl => match us, hl with | [], _ => rfl
  have F__law_number := fun_mk (st := s__law_number) l__law_number c__law_number k__law_number
  have b__law_number := F__law_number.binds (ps := ["_law_script", "_law_index"]) fun _ _ _ _ _ _ us hl => match us, hl with | [_, _], _ => rfl
  have F__law_other_hand := fun_mk (st := s__law_other_hand) l__law_other_hand c__law_other_hand k__law_other_hand
  have b__law_other_hand := F__law_other_hand.binds (ps := ["_law_word"]) fun _ _ _ _ _ _ us hl => match us, hl with | [_], _ => rfl
  have F__law_takes := fun_mk (st := s__law_takes) l__law_takes c__law_takes k__law_takes
  have b__law_takes := F__law_takes.binds (ps := ["_law_word", "_law_kinds_here"]) fun _ _ _ _ _ _ us hl => match us, hl with | [_, _], _ => rfl
  have F__least_period := fun_mk (st := s__least_period) l__least_period c__least_period k__least_period
  have b__least_period := F__least_period.binds (ps := ["marks"]) fun _ _ _ _ _ _ us hl => match us, hl with | [_], _ => rfl
  have F_behind := fun_mk (st := s_behind) l_behind c_behind k_behind
  have b_behind := F_behind.binds (ps := ["word"]) fun _ _ _ _ _ _ us hl => match us, hl with | [_], _ => rfl
  have F_common := fun_mk (st := s_common) l_common c_common k_common
  have b_common := F_common.binds (ps := ["one", "two"]) fun _ _ _ _ _ _ us hl => match us, hl with | [_, _], _ => rfl
  have F_common_divisor := fun_mk (st := s_common_divisor) l_common_divisor c_common_divisor k_common_divisor
  have b_common_divisor := F_common_divisor.binds (ps := ["one", "two"]) fun _ _ _ _ _ _ us hl => match us, hl with | [_, _], _ => rfl
  have F_cycles := fun_mk (st := s_cycles) l_cycles c_cycles k_cycles
  have b_cycles := F_cycles.binds (ps := ["places"]) fun _ _ _ _ _ _ us hl => match us, hl with | [_], _ => rfl
  have F_is_kind := fun_mk (st := s_is_kind) l_is_kind c_is_kind k_is_kind
  have b_is_kind := F_is_kind.binds (ps := ["thing"]) fun _ _ _ _ _ _ us hl => match us, hl with | [_], _ => rfl
  have F_is_number := fun_mk (st := s_is_number) l_is_number c_is_number k_is_number
  have b_is_number := F_is_number.binds (ps := ["thing"]) fun _ _ _ _ _ _ us hl => match us, hl with | [_], _ => rfl
  have F_is_steady_word := fun_mk (st := s_is_steady_word) l_is_steady_word c_is_steady_word k_is_steady_word
  have b_is_steady_word := F_is_steady_word.binds (ps := ["word"]) fun _ _ _ _ _ _ us hl => match us, hl with | [_], _ => rfl
  have F_is_yarn := fun_mk (st := s_is_yarn) l_is_yarn c_is_yarn k_is_yarn
  have b_is_yarn := F_is_yarn.binds (ps := ["thing"]) fun _ _ _ _ _ _ us hl => match us, hl with | [_], _ => rfl
  have F_marks_of := fun_mk (st := s_marks_of) l_marks_of c_marks_of k_marks_of
  have b_marks_of := F_marks_of.binds (ps := ["form", "many"]) fun _ _ _ _ _ _ us hl => match us, hl with | [_, _], _ => rfl
  have F_sent_by := fun_mk (st := s_sent_by) l_sent_by c_sent_by k_sent_by
  have b_sent_by := F_sent_by.binds (ps := ["word"]) fun _ _ _ _ _ _ us hl => match us, hl with | [_], _ => rfl
  have F_sent_many := fun_mk (st := s_sent_many) l_sent_many c_sent_many k_sent_many
  have b_sent_many := F_sent_many.binds (ps := ["places", "many"]) fun _ _ _ _ _ _ us hl => match us, hl with | [_, _], _ => rfl
  have F_takes := fun_mk (st := s_takes) l_takes c_takes k_takes
  have b_takes := F_takes.binds (ps := ["word"]) fun _ _ _ _ _ _ us hl => match us, hl with | [_], _ => rfl
  have F_Ratio___init__ := fun_mk (st := s_Ratio___init__) l_Ratio___init__ c_Ratio___init__ k_Ratio___init__
  have b_Ratio___init__ := F_Ratio___init__.binds (ps := ["self", "base", "rise", "below"]) fun _ _ _ _ _ _ us hl => match us, hl with | [_, _, _, _], _ => rfl
  have F_Sizes___contains__ := fun_mk (st := s_Sizes___contains__) l_Sizes___contains__ c_Sizes___contains__ k_Sizes___contains__
  have b_Sizes___contains__ := F_Sizes___contains__.binds (ps := ["self", "size"]) fun _ _ _ _ _ _ us hl => match us, hl with | [_, _], _ => rfl
  have F_Spot___init__ := fun_mk (st := s_Spot___init__) l_Spot___init__ c_Spot___init__ k_Spot___init__
  have b_Spot___init__ := F_Spot___init__.binds (ps := ["self", "part", "place", "row", "loops"]) fun _ _ _ _ _ _ us hl => match us, hl with | [_, _, _, _, _], _ => rfl
  have F__are_numbers := fun_mk (st := s__are_numbers) l__are_numbers c__are_numbers k__are_numbers
  have b__are_numbers := F__are_numbers.binds (ps := ["thing", "low", "high"]) fun _ _ _ _ _ _ us hl => match us, hl with | [_, _, _], _ => rfl
  have F__law_take := fun_mk (st := s__law_take) l__law_take c__law_take k__law_take
  have b__law_take := F__law_take.binds (ps := ["_law_draw", "_law_many"]) fun _ _ _ _ _ _ us hl => match us, hl with | [_, _], _ => rfl
  have F__law_turns := fun_mk (st := s__law_turns) l__law_turns c__law_turns k__law_turns
  have b__law_turns := F__law_turns.binds (ps := ["_law_row", "_law_loops", "_law_kinds_here"]) fun _ _ _ _ _ _ us hl => match us, hl with | [_, _, _], _ => rfl
  have F_behind_row := fun_mk (st := s_behind_row) l_behind_row c_behind_row k_behind_row
  have b_behind_row := F_behind_row.binds (ps := ["row"]) fun _ _ _ _ _ _ us hl => match us, hl with | [_], _ => rfl
  have F_check_size := fun_mk (st := s_check_size) l_check_size c_check_size k_check_size
  have b_check_size := F_check_size.binds (ps := ["size"]) fun _ _ _ _ _ _ us hl => match us, hl with | [_], _ => rfl
  have F_is_back := fun_mk (st := s_is_back) l_is_back c_is_back k_is_back
  have b_is_back := F_is_back.binds (ps := ["places", "rounds"]) fun _ _ _ _ _ _ us hl => match us, hl with | [_, _], _ => rfl
  have F_is_cell := fun_mk (st := s_is_cell) l_is_cell c_is_cell k_is_cell
  have b_is_cell := F_is_cell.binds (ps := ["thing"]) fun _ _ _ _ _ _ us hl => match us, hl with | [_], _ => rfl
  have F_is_steady := fun_mk (st := s_is_steady) l_is_steady c_is_steady k_is_steady
  have b_is_steady := F_is_steady.binds (ps := ["row"]) fun _ _ _ _ _ _ us hl => match us, hl with | [_], _ => rfl
  have F_least_form := fun_mk (st := s_least_form) l_least_form c_least_form k_least_form
  have b_least_form := F_least_form.binds (ps := ["early", "start", "period", "later"]) fun _ _ _ _ _ _ us hl => match us, hl with | [_, _, _, _], _ => rfl
  have F_set_form := fun_mk (st := s_set_form) l_set_form c_set_form k_set_form
  have b_set_form := F_set_form.binds (ps := ["one", "two", "word"]) fun _ _ _ _ _ _ us hl => match us, hl with | [_, _, _], _ => rfl
  have F_shared_period := fun_mk (st := s_shared_period) l_shared_period c_shared_period k_shared_period
  have b_shared_period := F_shared_period.binds (ps := ["rows"]) fun _ _ _ _ _ _ us hl => match us, hl with | [_], _ => rfl
  have F_trouble_of := fun_mk (st := s_trouble_of) l_trouble_of c_trouble_of k_trouble_of
  have b_trouble_of := F_trouble_of.binds (ps := ["row", "loops"]) fun _ _ _ _ _ _ us hl => match us, hl with | [_, _], _ => rfl
  have F_turns_of := fun_mk (st := s_turns_of) l_turns_of c_turns_of k_turns_of
  have b_turns_of := F_turns_of.binds (ps := ["row", "loops"]) fun _ _ _ _ _ _ us hl => match us, hl with | [_, _], _ => rfl
  have F_Sizes___init__ := fun_mk (st := s_Sizes___init__) l_Sizes___init__ c_Sizes___init__ k_Sizes___init__
  have b_Sizes___init__ := F_Sizes___init__.binds (ps := ["self", "early", "start", "period", "later"]) fun _ _ _ _ _ _ us hl => match us, hl with | [_, _, _, _, _], _ => rfl
  have F__law_pick := fun_mk (st := s__law_pick) l__law_pick c__law_pick k__law_pick
  have b__law_pick := F__law_pick.binds (ps := ["_law_draw", "_law_items"]) fun _ _ _ _ _ _ us hl => match us, hl with | [_, _], _ => rfl
  have F_is_word := fun_mk (st := s_is_word) l_is_word c_is_word k_is_word
  have b_is_word := F_is_word.binds (ps := ["thing"]) fun _ _ _ _ _ _ us hl => match us, hl with | [_], _ => rfl
  have F_round_of := fun_mk (st := s_round_of) l_round_of c_round_of k_round_of
  have b_round_of := F_round_of.binds (ps := ["rows", "way"]) fun _ _ _ _ _ _ us hl => match us, hl with | [_, _], _ => rfl
  have F_worked := fun_mk (st := s_worked) l_worked c_worked k_worked
  have b_worked := F_worked.binds (ps := ["row", "loops"]) fun _ _ _ _ _ _ us hl => match us, hl with | [_, _], _ => rfl
  have F_Ratio_plus := fun_mk (st := s_Ratio_plus) l_Ratio_plus c_Ratio_plus k_Ratio_plus
  have b_Ratio_plus := F_Ratio_plus.binds (ps := ["self", "number"]) fun _ _ _ _ _ _ us hl => match us, hl with | [_, _], _ => rfl
  have F__law_steady_rows := fun_mk (st := s__law_steady_rows) l__law_steady_rows c__law_steady_rows k__law_steady_rows
  have b__law_steady_rows := F__law_steady_rows.binds (ps := ["_law_draw"]) fun _ _ _ _ _ _ us hl => match us, hl with | [_], _ => rfl
  have F_is_row := fun_mk (st := s_is_row) l_is_row c_is_row k_is_row
  have b_is_row := F_is_row.binds (ps := ["thing"]) fun _ _ _ _ _ _ us hl => match us, hl with | [_], _ => rfl
  have F_of_line := fun_mk (st := s_of_line) l_of_line c_of_line k_of_line
  have b_of_line := F_of_line.binds (ps := ["line"]) fun _ _ _ _ _ _ us hl => match us, hl with | [_], _ => rfl
  have F_sent_round := fun_mk (st := s_sent_round) l_sent_round c_sent_round k_sent_round
  have b_sent_round := F_sent_round.binds (ps := ["rows", "loops"]) fun _ _ _ _ _ _ us hl => match us, hl with | [_, _], _ => rfl
  have F_Ratio_where_divides := fun_mk (st := s_Ratio_where_divides) l_Ratio_where_divides c_Ratio_where_divides k_Ratio_where_divides
  have b_Ratio_where_divides := F_Ratio_where_divides.binds (ps := ["self", "number"]) fun _ _ _ _ _ _ us hl => match us, hl with | [_, _], _ => rfl
  have F_Sizes___and__ := fun_mk (st := s_Sizes___and__) l_Sizes___and__ c_Sizes___and__ k_Sizes___and__
  have b_Sizes___and__ := F_Sizes___and__.binds (ps := ["self", "other"]) fun _ _ _ _ _ _ us hl => match us, hl with | [_, _], _ => rfl
  have F_Sizes___sub__ := fun_mk (st := s_Sizes___sub__) l_Sizes___sub__ c_Sizes___sub__ k_Sizes___sub__
  have b_Sizes___sub__ := F_Sizes___sub__.binds (ps := ["self", "other"]) fun _ _ _ _ _ _ us hl => match us, hl with | [_, _], _ => rfl
  have F_all_sizes := fun_mk (st := s_all_sizes) l_all_sizes c_all_sizes k_all_sizes
  have b_all_sizes := F_all_sizes.binds (ps := []) fun _ _ _ _ _ _ us hl => match us, hl with | [], _ => rfl
  have F_check_row := fun_mk (st := s_check_row) l_check_row c_check_row k_check_row
  have b_check_row := F_check_row.binds (ps := ["row"]) fun _ _ _ _ _ _ us hl => match us, hl with | [_], _ => rfl
  have F_from_marks := fun_mk (st := s_from_marks) l_from_marks c_from_marks k_from_marks
  have b_from_marks := F_from_marks.binds (ps := ["marks", "period"]) fun _ _ _ _ _ _ us hl => match us, hl with | [_, _], _ => rfl
  have F_from_on := fun_mk (st := s_from_on) l_from_on c_from_on k_from_on
  have b_from_on := F_from_on.binds (ps := ["size"]) fun _ _ _ _ _ _ us hl => match us, hl with | [_], _ => rfl
  have F_Ratio_where_least := fun_mk (st := s_Ratio_where_least) l_Ratio_where_least c_Ratio_where_least k_Ratio_where_least
  have b_Ratio_where_least := F_Ratio_where_least.binds (ps := ["self", "number"]) fun _ _ _ _ _ _ us hl => match us, hl with | [_, _], _ => rfl
  have F_Sizes_within := fun_mk (st := s_Sizes_within) l_Sizes_within c_Sizes_within k_Sizes_within
  have b_Sizes_within := F_Sizes_within.binds (ps := ["self", "other"]) fun _ _ _ _ _ _ us hl => match us, hl with | [_, _], _ => rfl
  have F_check_steady := fun_mk (st := s_check_steady) l_check_steady c_check_steady k_check_steady
  have b_check_steady := F_check_steady.binds (ps := ["rows"]) fun _ _ _ _ _ _ us hl => match us, hl with | [_], _ => rfl
  have F_fitting := fun_mk (st := s_fitting) l_fitting c_fitting k_fitting
  have b_fitting := F_fitting.binds (ps := ["spot"]) fun _ _ _ _ _ _ us hl => match us, hl with | [_], _ => rfl
  have F_sent : FunD K "sent" "sent" (defArgs s_sent) (defBody s_sent) (defScope s_sent) [.str "round"] [] f_sent _ := ⟨⟨_, _, _, _, _, _, _, _, _, _, rfl, l_sent, c_sent, .inr ⟨List.cons_ne_nil _ _, T_sent, _, [.str "round" tk_sent], nT_sent, rfl, d_sent, rfl, .cons ⟨_, rfl⟩ .nil⟩, .inl rfl⟩, k_sent⟩
  obtain ⟨ds_sent, dv_sent, b_sent⟩ := F_sent.binds1 (ps := ["rows", "loops", "way"]) 3 1 (List.cons_ne_nil _ _) rfl fun T0 kV doc pm an cdv ct us its hu hi => match us, hu, its, hi with | [_, _, _], _, [_], _ => ⟨_, rfl, rfl⟩
  obtain rfl := vals_nil dv_sent
  have F_back_after : FunD K "back_after" "back_after" (defArgs s_back_after) (defBody s_back_after) (defScope s_back_after) [.str "round"] [] f_back_after _ := ⟨⟨_, _, _, _, _, _, _, _, _, _, rfl, l_back_after, c_back_after, .inr ⟨List.cons_ne_nil _ _, T_back_after, _, [.str "round" tk_back_after], nT_back_after, rfl, d_back_after, rfl, .cons ⟨_, rfl⟩ .nil⟩, .inl rfl⟩, k_back_after⟩
  obtain ⟨ds_back_after, dv_back_after, b_back_after⟩ := F_back_after.binds1 (ps := ["rows", "loops", "way"]) 3 1 (List.cons_ne_nil _ _) rfl fun T0 kV doc pm an cdv ct us its hu hi => match us, hu, its, hi with | [_, _, _], _, [_], _ => ⟨_, rfl, rfl⟩
  obtain rfl := vals_nil dv_back_after
  have F_where_fits := fun_mk (st := s_where_fits) l_where_fits c_where_fits k_where_fits
  have b_where_fits := F_where_fits.binds (ps := ["rows"]) fun _ _ _ _ _ _ us hl => match us, hl with | [_], _ => rfl
  have F_where_back : FunD K "where_back" "where_back" (defArgs s_where_back) (defBody s_where_back) (defScope s_where_back) [.str "round"] [] f_where_back _ := ⟨⟨_, _, _, _, _, _, _, _, _, _, rfl, l_where_back, c_where_back, .inr ⟨List.cons_ne_nil _ _, T_where_back, _, [.str "round" tk_where_back], nT_where_back, rfl, d_where_back, rfl, .cons ⟨_, rfl⟩ .nil⟩, .inl rfl⟩, k_where_back⟩
  obtain ⟨ds_where_back, dv_where_back, b_where_back⟩ := F_where_back.binds1 (ps := ["rows", "rounds", "way"]) 3 1 (List.cons_ne_nil _ _) rfl fun T0 kV doc pm an cdv ct us its hu hi => match us, hu, its, hi with | [_, _, _], _, [_], _ => ⟨_, rfl, rfl⟩
  obtain rfl := vals_nil dv_where_back
  have F_law := fun_mk (st := s_law) l_law c_law k_law
  have b_law := F_law.binds (ps := ["_law_script"]) fun _ _ _ _ _ _ us hl => match us, hl with | [_], _ => rfl
  refine ⟨PySem.W.fnOf "law" "law" (defArgs s_law) (defBody s_law) (defScope s_law) .none kV_law dc_law pm_law an_law cd_law ct_law, fun s v => .of_eq rfl, fun base _ _ => ?_⟩
  have m_Sizes___bool____c : C8.Met l.prog w K mg base 1 CS "__bool__" (spF K (P_Sizes___bool__ CS)) [] := ⟨_, _, _, [], T.cS, ⟨a_Sizes___bool__, i_Sizes___bool__, k_Sizes___bool__⟩, ok_Sizes___bool__ (P := l.prog) (w := w) (mg := mg) (base := base) F_Sizes___bool__ T , b_Sizes___bool__, .nil⟩
  have m_Sizes___eq____c : C8.Met l.prog w K mg base 1 CS "__eq__" (spF K (P_Sizes___eq__ CS)) [] := ⟨_, _, _, [], T.cS, ⟨a_Sizes___eq__, i_Sizes___eq__, k_Sizes___eq__⟩, ok_Sizes___eq__ (P := l.prog) (w := w) (mg := mg) (base := base) F_Sizes___eq__ T , b_Sizes___eq__, .nil⟩
  have c__law_kinds__c : C8.Cal l.prog w K mg base 1 "_law_kinds" (spF K (P__law_kinds)) [] := ⟨_, _, _, [], ok__law_kinds (P := l.prog) (w := w) (mg := mg) (base := base) F__law_kinds T , PySem.W.mg_of X G a__law_kinds, k__law_kinds, b__law_kinds, .nil⟩
  have c__law_number__c : C8.Cal l.prog w K mg base 1 "_law_number" (spF K (P__law_number)) [] := ⟨_, _, _, [], ok__law_number (P := l.prog) (w := w) (mg := mg) (base := base) F__law_number T , PySem.W.mg_of X G a__law_number, k__law_number, b__law_number, .nil⟩
  have c__law_other_hand__c : C8.Cal l.prog w K mg base 1 "_law_other_hand" (spF K (P__law_other_hand)) [] := ⟨_, _, _, [], ok__law_other_hand (P := l.prog) (w := w) (mg := mg) (base := base) F__law_other_hand T , PySem.W.mg_of X G a__law_other_hand, k__law_other_hand, b__law_other_hand, .nil⟩
  have c__law_takes__c : C8.Cal l.prog w K mg base 1 "_law_takes" (spF K (P__law_takes)) [] := ⟨_, _, _, [], ok__law_takes (P := l.prog) (w := w) (mg := mg) (base := base) F__law_takes T , PySem.W.mg_of X G a__law_takes, k__law_takes, b__law_takes, .nil⟩
  have c__least_period__c : C8.Cal l.prog w K mg base 1 "_least_period" (spF K (P__least_period)) [] := ⟨_, _, _, [], ok__least_period (P := l.prog) (w := w) (mg := mg) (base := base) F__least_period T , PySem.W.mg_of X G a__least_period, k__least_period, b__least_period, .nil⟩
  have c_behind__c : C8.Cal l.prog w K mg base 1 "behind" (spF K (P_behind)) [] := ⟨_, _, _, [], ok_behind (P := l.prog) (w := w) (mg := mg) (base := base) F_behind T , PySem.W.mg_of X G a_behind, k_behind, b_behind, .nil⟩
  have c_common__c : C8.Cal l.prog w K mg base 1 "common" (spF K (P_common)) [] := ⟨_, _, _, [], ok_common (P := l.prog) (w := w) (mg := mg) (base := base) F_common T , PySem.W.mg_of X G a_common, k_common, b_common, .nil⟩
  have c_common_divisor__c : C8.Cal l.prog w K mg base 1 "common_divisor" (spF K (P_common_divisor)) [] := ⟨_, _, _, [], ok_common_divisor (P := l.prog) (w := w) (mg := mg) (base := base) F_common_divisor T , PySem.W.mg_of X G a_common_divisor, k_common_divisor, b_common_divisor, .nil⟩
  have c_cycles__c : C8.Cal l.prog w K mg base 1 "cycles" (spF K (P_cycles)) [] := ⟨_, _, _, [], ok_cycles (P := l.prog) (w := w) (mg := mg) (base := base) F_cycles T , PySem.W.mg_of X G a_cycles, k_cycles, b_cycles, .nil⟩
  have c_is_kind__c : C8.Cal l.prog w K mg base 1 "is_kind" (spF K (P_is_kind)) [] := ⟨_, _, _, [], ok_is_kind (P := l.prog) (w := w) (mg := mg) (base := base) F_is_kind T , PySem.W.mg_of X G a_is_kind, k_is_kind, b_is_kind, .nil⟩
  have c_is_number__c : C8.Cal l.prog w K mg base 1 "is_number" (spF K (P_is_number)) [] := ⟨_, _, _, [], ok_is_number (P := l.prog) (w := w) (mg := mg) (base := base) F_is_number T , PySem.W.mg_of X G a_is_number, k_is_number, b_is_number, .nil⟩
  have c_is_steady_word__c : C8.Cal l.prog w K mg base 1 "is_steady_word" (spF K (P_is_steady_word)) [] := ⟨_, _, _, [], ok_is_steady_word (P := l.prog) (w := w) (mg := mg) (base := base) F_is_steady_word T , PySem.W.mg_of X G a_is_steady_word, k_is_steady_word, b_is_steady_word, .nil⟩
  have c_is_yarn__c : C8.Cal l.prog w K mg base 1 "is_yarn" (spF K (P_is_yarn)) [] := ⟨_, _, _, [], ok_is_yarn (P := l.prog) (w := w) (mg := mg) (base := base) F_is_yarn T , PySem.W.mg_of X G a_is_yarn, k_is_yarn, b_is_yarn, .nil⟩
  have c_marks_of__c : C8.Cal l.prog w K mg base 1 "marks_of" (spF K (P_marks_of)) [] := ⟨_, _, _, [], ok_marks_of (P := l.prog) (w := w) (mg := mg) (base := base) F_marks_of T , PySem.W.mg_of X G a_marks_of, k_marks_of, b_marks_of, .nil⟩
  have c_sent_by__c : C8.Cal l.prog w K mg base 1 "sent_by" (spF K (P_sent_by)) [] := ⟨_, _, _, [], ok_sent_by (P := l.prog) (w := w) (mg := mg) (base := base) F_sent_by T , PySem.W.mg_of X G a_sent_by, k_sent_by, b_sent_by, .nil⟩
  have c_sent_many__c : C8.Cal l.prog w K mg base 1 "sent_many" (spF K (P_sent_many)) [] := ⟨_, _, _, [], ok_sent_many (P := l.prog) (w := w) (mg := mg) (base := base) F_sent_many T , PySem.W.mg_of X G a_sent_many, k_sent_many, b_sent_many, .nil⟩
  have c_takes__c : C8.Cal l.prog w K mg base 1 "takes" (spF K (P_takes)) [] := ⟨_, _, _, [], ok_takes (P := l.prog) (w := w) (mg := mg) (base := base) F_takes T , PySem.W.mg_of X G a_takes, k_takes, b_takes, .nil⟩
  have k_Ratio__mk : C8.Mak l.prog w K mg base 2 "Ratio" CR (spI K CR (P_Ratio___init__)) [] := ⟨_, _, _, [], ⟨CR_mk, a_Ratio___init__, i_Ratio___init__, CR_kc⟩, ok_Ratio___init__ (P := l.prog) (w := w) (mg := mg) (base := base) F_Ratio___init__ T c_common_divisor__c, PySem.W.mg_of X G gCR, b_Ratio___init__, .nil⟩
  have m_Sizes___contains____c : C8.Met l.prog w K mg base 2 CS "__contains__" (spF K (P_Sizes___contains__ CS)) [] := ⟨_, _, _, [], T.cS, ⟨a_Sizes___contains__, i_Sizes___contains__, k_Sizes___contains__⟩, ok_Sizes___contains__ (P := l.prog) (w := w) (mg := mg) (base := base) F_Sizes___contains__ T c_is_number__c, b_Sizes___contains__, .nil⟩
  have k_Spot__mk : C8.Mak l.prog w K mg base 2 "Spot" CP (spI K CP (P_Spot___init__ CR)) [] := ⟨_, _, _, [], ⟨CP_mk, a_Spot___init__, i_Spot___init__, CP_kc⟩, ok_Spot___init__ (P := l.prog) (w := w) (mg := mg) (base := base) F_Spot___init__ T c_takes__c, PySem.W.mg_of X G gCP, b_Spot___init__, .nil⟩
  have c__are_numbers__c : C8.Cal l.prog w K mg base 2 "_are_numbers" (spF K (P__are_numbers)) [] := ⟨_, _, _, [], ok__are_numbers (P := l.prog) (w := w) (mg := mg) (base := base) F__are_numbers T c_is_number__c, PySem.W.mg_of X G a__are_numbers, k__are_numbers, b__are_numbers, .nil⟩
  have c__law_take__c : C8.Cal l.prog w K mg base 2 "_law_take" (spDr K P__law_take) [] := ⟨_, _, _, [], ok__law_take (P := l.prog) (w := w) (mg := mg) (base := base) F__law_take T c__law_number__c, PySem.W.mg_of X G a__law_take, k__law_take, b__law_take, .nil⟩
  have c__law_turns__c : C8.Cal l.prog w K mg base 2 "_law_turns" (spF K (P__law_turns)) [] := ⟨_, _, _, [], ok__law_turns (P := l.prog) (w := w) (mg := mg) (base := base) F__law_turns T c__law_takes__c, PySem.W.mg_of X G a__law_turns, k__law_turns, b__law_turns, .nil⟩
  have c_behind_row__c : C8.Cal l.prog w K mg base 2 "behind_row" (spF K (P_behind_row)) [] := ⟨_, _, _, [], ok_behind_row (P := l.prog) (w := w) (mg := mg) (base := base) F_behind_row T c_behind__c, PySem.W.mg_of X G a_behind_row, k_behind_row, b_behind_row, .nil⟩
  have c_check_size__c : C8.Cal l.prog w K mg base 2 "check_size" (spF K (P_check_size)) [] := ⟨_, _, _, [], ok_check_size (P := l.prog) (w := w) (mg := mg) (base := base) F_check_size T c_is_number__c, PySem.W.mg_of X G a_check_size, k_check_size, b_check_size, .nil⟩
  have c_is_back__c : C8.Cal l.prog w K mg base 2 "is_back" (spF K (P_is_back)) [] := ⟨_, _, _, [], ok_is_back (P := l.prog) (w := w) (mg := mg) (base := base) F_is_back T c_sent_many__c, PySem.W.mg_of X G a_is_back, k_is_back, b_is_back, .nil⟩
  have c_is_cell__c : C8.Cal l.prog w K mg base 2 "is_cell" (spF K (P_is_cell)) [] := ⟨_, _, _, [], ok_is_cell (P := l.prog) (w := w) (mg := mg) (base := base) F_is_cell T c_is_kind__c c_is_yarn__c, PySem.W.mg_of X G a_is_cell, k_is_cell, b_is_cell, .nil⟩
  have c_is_steady__c : C8.Cal l.prog w K mg base 2 "is_steady" (spF K (P_is_steady)) [] := ⟨_, _, _, [], ok_is_steady (P := l.prog) (w := w) (mg := mg) (base := base) F_is_steady T c_is_steady_word__c, PySem.W.mg_of X G a_is_steady, k_is_steady, b_is_steady, .nil⟩
  have c_least_form__c : C8.Cal l.prog w K mg base 2 "least_form" (spF K (P_least_form)) [] := ⟨_, _, _, [], ok_least_form (P := l.prog) (w := w) (mg := mg) (base := base) F_least_form T c__least_period__c, PySem.W.mg_of X G a_least_form, k_least_form, b_least_form, .nil⟩
  have c_set_form__c : C8.Cal l.prog w K mg base 2 "set_form" (spF K (P_set_form)) [] := ⟨_, _, _, [], ok_set_form (P := l.prog) (w := w) (mg := mg) (base := base) F_set_form T c_common__c c_marks_of__c, PySem.W.mg_of X G a_set_form, k_set_form, b_set_form, .nil⟩
  have c_shared_period__c : C8.Cal l.prog w K mg base 2 "shared_period" (spF K (P_shared_period)) [] := ⟨_, _, _, [], ok_shared_period (P := l.prog) (w := w) (mg := mg) (base := base) F_shared_period T c_common__c c_takes__c, PySem.W.mg_of X G a_shared_period, k_shared_period, b_shared_period, .nil⟩
  have c_trouble_of__c : C8.Cal l.prog w K mg base 2 "trouble_of" (spF K (P_trouble_of)) [] := ⟨_, _, _, [], ok_trouble_of (P := l.prog) (w := w) (mg := mg) (base := base) F_trouble_of T c_takes__c, PySem.W.mg_of X G a_trouble_of, k_trouble_of, b_trouble_of, .nil⟩
  have c_turns_of__c : C8.Cal l.prog w K mg base 2 "turns_of" (spF K (P_turns_of)) [] := ⟨_, _, _, [], ok_turns_of (P := l.prog) (w := w) (mg := mg) (base := base) F_turns_of T c_takes__c, PySem.W.mg_of X G a_turns_of, k_turns_of, b_turns_of, .nil⟩
  have k_Sizes__mk : C8.Mak l.prog w K mg base 3 "Sizes" CS (spI K CS (P_Sizes___init__)) [] := ⟨_, _, _, [], ⟨CS_mk, a_Sizes___init__, i_Sizes___init__, CS_kc⟩, ok_Sizes___init__ (P := l.prog) (w := w) (mg := mg) (base := base) F_Sizes___init__ T c__are_numbers__c c_is_number__c c_least_form__c, PySem.W.mg_of X G gCS, b_Sizes___init__, .nil⟩
  have c__law_pick__c : C8.Cal l.prog w K mg base 3 "_law_pick" (spDr K P__law_pick) [] := ⟨_, _, _, [], ok__law_pick (P := l.prog) (w := w) (mg := mg) (base := base) F__law_pick T c__law_take__c, PySem.W.mg_of X G a__law_pick, k__law_pick, b__law_pick, .nil⟩
  have c_is_word__c : C8.Cal l.prog w K mg base 3 "is_word" (spF K (P_is_word)) [] := ⟨_, _, _, [], ok_is_word (P := l.prog) (w := w) (mg := mg) (base := base) F_is_word T c_is_cell__c, PySem.W.mg_of X G a_is_word, k_is_word, b_is_word, .nil⟩
  have c_round_of__c : C8.Cal l.prog w K mg base 3 "round_of" (spF K (P_round_of)) [] := ⟨_, _, _, [], ok_round_of (P := l.prog) (w := w) (mg := mg) (base := base) F_round_of T c_behind_row__c, PySem.W.mg_of X G a_round_of, k_round_of, b_round_of, .nil⟩
  have c_worked__c : C8.Cal l.prog w K mg base 3 "worked" (spF K (P_worked)) [] := ⟨_, _, _, [], ok_worked (P := l.prog) (w := w) (mg := mg) (base := base) F_worked T c_turns_of__c, PySem.W.mg_of X G a_worked, k_worked, b_worked, .nil⟩
  have m_Ratio_plus__c : C8.Met l.prog w K mg base 4 CR "plus" (spF K (P_Ratio_plus CR)) [] := ⟨_, _, _, [], T.cR, ⟨a_Ratio_plus, i_Ratio_plus, k_Ratio_plus⟩, ok_Ratio_plus (P := l.prog) (w := w) (mg := mg) (base := base) F_Ratio_plus T k_Ratio__mk, b_Ratio_plus, .nil⟩
  have c__law_steady_rows__c : C8.Cal l.prog w K mg base 4 "_law_steady_rows" (spDr K P__law_steady_rows) [] := ⟨_, _, _, [], ok__law_steady_rows (P := l.prog) (w := w) (mg := mg) (base := base) F__law_steady_rows T c__law_pick__c c__law_take__c, PySem.W.mg_of X G a__law_steady_rows, k__law_steady_rows, b__law_steady_rows, .nil⟩
  have c_is_row__c : C8.Cal l.prog w K mg base 4 "is_row" (spF K (P_is_row)) [] := ⟨_, _, _, [], ok_is_row (P := l.prog) (w := w) (mg := mg) (base := base) F_is_row T c_is_word__c c_takes__c, PySem.W.mg_of X G a_is_row, k_is_row, b_is_row, .nil⟩
  have c_of_line__c : C8.Cal l.prog w K mg base 4 "of_line" (spF K (P_of_line CR)) [] := ⟨_, _, _, [], ok_of_line (P := l.prog) (w := w) (mg := mg) (base := base) F_of_line T k_Ratio__mk, PySem.W.mg_of X G a_of_line, k_of_line, b_of_line, .nil⟩
  have c_sent_round__c : C8.Cal l.prog w K mg base 4 "sent_round" (spF K (P_sent_round)) [] := ⟨_, _, _, [], ok_sent_round (P := l.prog) (w := w) (mg := mg) (base := base) F_sent_round T c_sent_by__c c_worked__c, PySem.W.mg_of X G a_sent_round, k_sent_round, b_sent_round, .nil⟩
  have m_Ratio_where_divides__c : C8.Met l.prog w K mg base 5 CR "where_divides" (spF K (P_Ratio_where_divides CS CR)) [] := ⟨_, _, _, [], T.cR, ⟨a_Ratio_where_divides, i_Ratio_where_divides, k_Ratio_where_divides⟩, ok_Ratio_where_divides (P := l.prog) (w := w) (mg := mg) (base := base) F_Ratio_where_divides T k_Sizes__mk, b_Ratio_where_divides, .nil⟩
  have m_Sizes___and____c : C8.Met l.prog w K mg base 5 CS "__and__" (spF K (P_Sizes___and__ CS)) [] := ⟨_, _, _, [], T.cS, ⟨a_Sizes___and__, i_Sizes___and__, k_Sizes___and__⟩, ok_Sizes___and__ (P := l.prog) (w := w) (mg := mg) (base := base) F_Sizes___and__ T k_Sizes__mk c_set_form__c, b_Sizes___and__, .nil⟩
  have m_Sizes___sub____c : C8.Met l.prog w K mg base 5 CS "__sub__" (spF K (P_Sizes___sub__ CS)) [] := ⟨_, _, _, [], T.cS, ⟨a_Sizes___sub__, i_Sizes___sub__, k_Sizes___sub__⟩, ok_Sizes___sub__ (P := l.prog) (w := w) (mg := mg) (base := base) F_Sizes___sub__ T k_Sizes__mk c_set_form__c, b_Sizes___sub__, .nil⟩
  have c_all_sizes__c : C8.Cal l.prog w K mg base 5 "all_sizes" (spF K (P_all_sizes CS)) [] := ⟨_, _, _, [], ok_all_sizes (P := l.prog) (w := w) (mg := mg) (base := base) F_all_sizes T k_Sizes__mk, PySem.W.mg_of X G a_all_sizes, k_all_sizes, b_all_sizes, .nil⟩
  have c_check_row__c : C8.Cal l.prog w K mg base 5 "check_row" (spF K (P_check_row)) [] := ⟨_, _, _, [], ok_check_row (P := l.prog) (w := w) (mg := mg) (base := base) F_check_row T c_is_row__c, PySem.W.mg_of X G a_check_row, k_check_row, b_check_row, .nil⟩
  have c_from_marks__c : C8.Cal l.prog w K mg base 5 "from_marks" (spF K (P_from_marks CS)) [] := ⟨_, _, _, [], ok_from_marks (P := l.prog) (w := w) (mg := mg) (base := base) F_from_marks T k_Sizes__mk, PySem.W.mg_of X G a_from_marks, k_from_marks, b_from_marks, .nil⟩
  have c_from_on__c : C8.Cal l.prog w K mg base 5 "from_on" (spF K (P_from_on CS)) [] := ⟨_, _, _, [], ok_from_on (P := l.prog) (w := w) (mg := mg) (base := base) F_from_on T k_Sizes__mk, PySem.W.mg_of X G a_from_on, k_from_on, b_from_on, .nil⟩
  have m_Ratio_where_least__c : C8.Met l.prog w K mg base 6 CR "where_least" (spF K (P_Ratio_where_least CS CR)) [] := ⟨_, _, _, [], T.cR, ⟨a_Ratio_where_least, i_Ratio_where_least, k_Ratio_where_least⟩, ok_Ratio_where_least (P := l.prog) (w := w) (mg := mg) (base := base) F_Ratio_where_least T c_from_on__c, b_Ratio_where_least, .nil⟩
  have m_Sizes_within__c : C8.Met l.prog w K mg base 6 CS "within" (spF K (P_Sizes_within CS)) [] := ⟨_, _, _, [], T.cS, ⟨a_Sizes_within, i_Sizes_within, k_Sizes_within⟩, ok_Sizes_within (P := l.prog) (w := w) (mg := mg) (base := base) F_Sizes_within T m_Sizes___bool____c m_Sizes___sub____c, b_Sizes_within, .nil⟩
  have c_check_steady__c : C8.Cal l.prog w K mg base 6 "check_steady" (spF K (P_check_steady)) [] := ⟨_, _, _, [], ok_check_steady (P := l.prog) (w := w) (mg := mg) (base := base) F_check_steady T c_check_row__c c_is_steady__c c_shared_period__c, PySem.W.mg_of X G a_check_steady, k_check_steady, b_check_steady, .nil⟩
  have c_fitting__c : C8.Cal l.prog w K mg base 7 "fitting" (spF K (P_fitting CS CR CP)) [] := ⟨_, _, _, [], ok_fitting (P := l.prog) (w := w) (mg := mg) (base := base) F_fitting T m_Ratio_plus__c m_Ratio_where_divides__c m_Ratio_where_least__c m_Sizes___and____c c_takes__c, PySem.W.mg_of X G a_fitting, k_fitting, b_fitting, .nil⟩
  have c_sent__c : C8.Cal l.prog w K mg base 7 "sent" (spF K (P_sent)) [] := ⟨_, _, _, [], ok_sent (P := l.prog) (w := w) (mg := mg) (base := base) F_sent T c_check_size__c c_check_steady__c c_round_of__c c_sent_round__c c_trouble_of__c, PySem.W.mg_of X G a_sent, k_sent, b_sent, .nil⟩
  have c_back_after__c : C8.Cal l.prog w K mg base 8 "back_after" (spF K (P_back_after)) [] := ⟨_, _, _, [], ok_back_after (P := l.prog) (w := w) (mg := mg) (base := base) F_back_after T c_common__c c_cycles__c c_sent__c, PySem.W.mg_of X G a_back_after, k_back_after, b_back_after, .nil⟩
  have c_where_fits__c : C8.Cal l.prog w K mg base 8 "where_fits" (spF K (P_where_fits CS)) [] := ⟨_, _, _, [], ok_where_fits (P := l.prog) (w := w) (mg := mg) (base := base) F_where_fits T m_Sizes___and____c k_Spot__mk c_all_sizes__c c_fitting__c c_of_line__c, PySem.W.mg_of X G a_where_fits, k_where_fits, b_where_fits, .nil⟩
  have c_where_back__c : C8.Cal l.prog w K mg base 9 "where_back" (spF K (P_where_back CS)) [] := ⟨_, _, _, [], ok_where_back (P := l.prog) (w := w) (mg := mg) (base := base) F_where_back T m_Sizes___contains____c c_check_steady__c c_common__c c_from_marks__c c_is_back__c c_is_number__c c_round_of__c c_sent_round__c c_shared_period__c c_takes__c c_where_fits__c, PySem.W.mg_of X G a_where_back, k_where_back, b_where_back, .nil⟩
  exact ok_law F_law T m_Sizes___and____c m_Sizes___contains____c m_Sizes___eq____c m_Sizes_within__c c__law_kinds__c c__law_other_hand__c c__law_pick__c c__law_steady_rows__c c__law_take__c c__law_turns__c c_back_after__c c_sent__c c_where_back__c mem_whereBack back_lcm
end K17
open PySem PySem.W PyProof.Rows
set_option maxRecDepth 100000 in
set_option maxHeartbeats 0 in
theorem PySem.Challenge.cw_allstitches_k17_whole_cross_relations_holds : PySem.Challenge.rw_allstitches_k17_whole_cross_relations.Holds := by
  w_on; o_law; k_head; (case hw => w_witness2)
  k_fill
  refine L2.walk_of (l := PySem.Challenge.rw_allstitches_k17_whole_cross_relations) (n := 63) (k := 10) (x := "_law_script") (CX := fun _ => L2.CX0) (sp := fun w => K17.spF _ K17.P_law) rfl (by decide) rfl ⟨rfl, by decide, by decide⟩ (fun w h Y => PySem.W.kIn_of Y) ?F (fun _ H a ns _ _ hS => ⟨H, [.scr ns], .bl true, L2.Same.refl _, .one (.scr hS), .mk ns, fun v _ _ _ r => by cases r; rfl⟩) (fun _ _ _ _ _ z => z)
  case F =>
    intro w mg fa h KX G hmg
    refine' K17.all_mk (w := w) KX G hmg ?gK ?gCS ?gCR ?gCP ?a_Sizes___bool__ ?i_Sizes___bool__ ?l_Sizes___bool__ ?c_Sizes___bool__ ?k_Sizes___bool__ ?a_Sizes___eq__ ?i_Sizes___eq__ ?l_Sizes___eq__ ?c_Sizes___eq__ ?k_Sizes___eq__ ?a__law_kinds ?l__law_kinds ?c__law_kinds ?k__law_kinds ?a__law_number ?l__law_number ?c__law_number ?k__law_number ?a__law_other_hand ?l__law_other_hand ?c__law_other_hand ?k__law_other_hand ?a__law_takes ?l__law_takes ?c__law_takes ?k__law_takes ?a__least_period ?l__least_period ?c__least_period ?k__least_period ?a_behind ?l_behind ?c_behind ?k_behind ?a_common ?l_common ?c_common ?k_common ?a_common_divisor ?l_common_divisor ?c_common_divisor ?k_common_divisor ?a_cycles ?l_cycles ?c_cycles ?k_cycles ?a_is_kind ?l_is_kind ?c_is_kind ?k_is_kind ?a_is_number ?l_is_number ?c_is_number ?k_is_number ?a_is_steady_word ?l_is_steady_word ?c_is_steady_word ?k_is_steady_word ?a_is_yarn ?l_is_yarn ?c_is_yarn ?k_is_yarn ?a_marks_of ?l_marks_of ?c_marks_of ?k_marks_of ?a_sent_by ?l_sent_by ?c_sent_by ?k_sent_by ?a_sent_many ?l_sent_many ?c_sent_many ?k_sent_many ?a_takes ?l_takes ?c_takes ?k_takes ?a_Ratio___init__ ?i_Ratio___init__ ?l_Ratio___init__ ?c_Ratio___init__ ?k_Ratio___init__ ?a_Sizes___contains__ ?i_Sizes___contains__ ?l_Sizes___contains__ ?c_Sizes___contains__ ?k_Sizes___contains__ ?a_Spot___init__ ?i_Spot___init__ ?l_Spot___init__ ?c_Spot___init__ ?k_Spot___init__ ?a__are_numbers ?l__are_numbers ?c__are_numbers ?k__are_numbers ?a__law_take ?l__law_take ?c__law_take ?k__law_take ?a__law_turns ?l__law_turns ?c__law_turns ?k__law_turns ?a_behind_row ?l_behind_row ?c_behind_row ?k_behind_row ?a_check_size ?l_check_size ?c_check_size ?k_check_size ?a_is_back ?l_is_back ?c_is_back ?k_is_back ?a_is_cell ?l_is_cell ?c_is_cell ?k_is_cell ?a_is_steady ?l_is_steady ?c_is_steady ?k_is_steady ?a_least_form ?l_least_form ?c_least_form ?k_least_form ?a_set_form ?l_set_form ?c_set_form ?k_set_form ?a_shared_period ?l_shared_period ?c_shared_period ?k_shared_period ?a_trouble_of ?l_trouble_of ?c_trouble_of ?k_trouble_of ?a_turns_of ?l_turns_of ?c_turns_of ?k_turns_of ?a_Sizes___init__ ?i_Sizes___init__ ?l_Sizes___init__ ?c_Sizes___init__ ?k_Sizes___init__ ?a__law_pick ?l__law_pick ?c__law_pick ?k__law_pick ?a_is_word ?l_is_word ?c_is_word ?k_is_word ?a_round_of ?l_round_of ?c_round_of ?k_round_of ?a_worked ?l_worked ?c_worked ?k_worked ?a_Ratio_plus ?i_Ratio_plus ?l_Ratio_plus ?c_Ratio_plus ?k_Ratio_plus ?a__law_steady_rows ?l__law_steady_rows ?c__law_steady_rows ?k__law_steady_rows ?a_is_row ?l_is_row ?c_is_row ?k_is_row ?a_of_line ?l_of_line ?c_of_line ?k_of_line ?a_sent_round ?l_sent_round ?c_sent_round ?k_sent_round ?a_Ratio_where_divides ?i_Ratio_where_divides ?l_Ratio_where_divides ?c_Ratio_where_divides ?k_Ratio_where_divides ?a_Sizes___and__ ?i_Sizes___and__ ?l_Sizes___and__ ?c_Sizes___and__ ?k_Sizes___and__ ?a_Sizes___sub__ ?i_Sizes___sub__ ?l_Sizes___sub__ ?c_Sizes___sub__ ?k_Sizes___sub__ ?a_all_sizes ?l_all_sizes ?c_all_sizes ?k_all_sizes ?a_check_row ?l_check_row ?c_check_row ?k_check_row ?a_from_marks ?l_from_marks ?c_from_marks ?k_from_marks ?a_from_on ?l_from_on ?c_from_on ?k_from_on ?a_Ratio_where_least ?i_Ratio_where_least ?l_Ratio_where_least ?c_Ratio_where_least ?k_Ratio_where_least ?a_Sizes_within ?i_Sizes_within ?l_Sizes_within ?c_Sizes_within ?k_Sizes_within ?a_check_steady ?l_check_steady ?c_check_steady ?k_check_steady ?a_fitting ?l_fitting ?c_fitting ?k_fitting ?a_sent ?l_sent ?c_sent ?k_sent ?d_sent ?a_back_after ?l_back_after ?c_back_after ?k_back_after ?d_back_after ?a_where_fits ?l_where_fits ?c_where_fits ?k_where_fits ?a_where_back ?l_where_back ?c_where_back ?k_where_back ?d_where_back ?a_law ?l_law ?c_law ?k_law ?z_len ?z_sum ?z_all ?z_max ?z_abs ?z_isinstance ?z_sorted ?z_int ?z_tuple ?z_list ?z_range ?z_zip ?z_enumerate ?z_bool ?z_str ?v_MOST_PERIOD_sizes ?v_MOST_CELLS ?v_MOST_REST ?v_MOST_MOVES ?v_MOST_ROWS ?v_MOST_PERIOD_crossing ?kd1 ?kd2 ?kd3 ?kn_k ?kl_k ?kn_p ?kl_p ?kn_c2f ?kl_c2f ?kn_c2b ?kl_c2b ?kn_c2fw ?kl_c2fw ?kn_c2bw ?kl_c2bw ?kn_c4f ?kl_c4f ?kn_c4b ?kl_c4b ?kn_c4fw ?kl_c4fw ?kn_c4bw ?kl_c4bw ?CS_pg ?CS_hd ?CS_po ?CS_sa ?CS_mk ?CS_kc ?CS_n_form ?CS_n_early ?CS_n_start ?CS_n_period ?CS_n_later ?CR_pg ?CR_hd ?CR_po ?CR_sa ?CR_mk ?CR_kc ?CR_n_base ?CR_n_rise ?CR_n_below ?CP_pg ?CP_hd ?CP_po ?CP_sa ?CP_mk ?CP_kc ?CP_n_part ?CP_n_place ?CP_n_row ?CP_n_loops ?CP_n_need ?selfS ?neS ?subS ?ins1 ?ins2 ?ins3 ?ins4
    (case gK => k_is)
    (case gCS => k_is)
    (case gCR => k_is)
    (case gCP => k_is)
    (case a_Sizes___bool__ => k_is)
    (case i_Sizes___bool__ => k_is)
    (case l_Sizes___bool__ => k_is)
    (case c_Sizes___bool__ => k_is)
    (case k_Sizes___bool__ => k_is)
    (case a_Sizes___eq__ => k_is)
    (case i_Sizes___eq__ => k_is)
    (case l_Sizes___eq__ => k_is)
    (case c_Sizes___eq__ => k_is)
    (case k_Sizes___eq__ => k_is)
    (case a__law_kinds => k_is)
    (case l__law_kinds => k_is)
    (case c__law_kinds => k_is)
    (case k__law_kinds => k_is)
    (case a__law_number => k_is)
    (case l__law_number => k_is)
    (case c__law_number => k_is)
    (case k__law_number => k_is)
    (case a__law_other_hand => k_is)
    (case l__law_other_hand => k_is)
    (case c__law_other_hand => k_is)
    (case k__law_other_hand => k_is)
    (case a__law_takes => k_is)
    (case l__law_takes => k_is)
    (case c__law_takes => k_is)
    (case k__law_takes => k_is)
    (case a__least_period => k_is)
    (case l__least_period => k_is)
    (case c__least_period => k_is)
    (case k__least_period => k_is)
    (case a_behind => k_is)
    (case l_behind => k_is)
    (case c_behind => k_is)
    (case k_behind => k_is)
    (case a_common => k_is)
    (case l_common => k_is)
    (case c_common => k_is)
    (case k_common => k_is)
    (case a_common_divisor => k_is)
    (case l_common_divisor => k_is)
    (case c_common_divisor => k_is)
    (case k_common_divisor => k_is)
    (case a_cycles => k_is)
    (case l_cycles => k_is)
    (case c_cycles => k_is)
    (case k_cycles => k_is)
    (case a_is_kind => k_is)
    (case l_is_kind => k_is)
    (case c_is_kind => k_is)
    (case k_is_kind => k_is)
    (case a_is_number => k_is)
    (case l_is_number => k_is)
    (case c_is_number => k_is)
    (case k_is_number => k_is)
    (case a_is_steady_word => k_is)
    (case l_is_steady_word => k_is)
    (case c_is_steady_word => k_is)
    (case k_is_steady_word => k_is)
    (case a_is_yarn => k_is)
    (case l_is_yarn => k_is)
    (case c_is_yarn => k_is)
    (case k_is_yarn => k_is)
    (case a_marks_of => k_is)
    (case l_marks_of => k_is)
    (case c_marks_of => k_is)
    (case k_marks_of => k_is)
    (case a_sent_by => k_is)
    (case l_sent_by => k_is)
    (case c_sent_by => k_is)
    (case k_sent_by => k_is)
    (case a_sent_many => k_is)
    (case l_sent_many => k_is)
    (case c_sent_many => k_is)
    (case k_sent_many => k_is)
    (case a_takes => k_is)
    (case l_takes => k_is)
    (case c_takes => k_is)
    (case k_takes => k_is)
    (case a_Ratio___init__ => k_is)
    (case i_Ratio___init__ => k_is)
    (case l_Ratio___init__ => k_is)
    (case c_Ratio___init__ => k_is)
    (case k_Ratio___init__ => k_is)
    (case a_Sizes___contains__ => k_is)
    (case i_Sizes___contains__ => k_is)
    (case l_Sizes___contains__ => k_is)
    (case c_Sizes___contains__ => k_is)
    (case k_Sizes___contains__ => k_is)
    (case a_Spot___init__ => k_is)
    (case i_Spot___init__ => k_is)
    (case l_Spot___init__ => k_is)
    (case c_Spot___init__ => k_is)
    (case k_Spot___init__ => k_is)
    (case a__are_numbers => k_is)
    (case l__are_numbers => k_is)
    (case c__are_numbers => k_is)
    (case k__are_numbers => k_is)
    (case a__law_take => k_is)
    (case l__law_take => k_is)
    (case c__law_take => k_is)
    (case k__law_take => k_is)
    (case a__law_turns => k_is)
    (case l__law_turns => k_is)
    (case c__law_turns => k_is)
    (case k__law_turns => k_is)
    (case a_behind_row => k_is)
    (case l_behind_row => k_is)
    (case c_behind_row => k_is)
    (case k_behind_row => k_is)
    (case a_check_size => k_is)
    (case l_check_size => k_is)
    (case c_check_size => k_is)
    (case k_check_size => k_is)
    (case a_is_back => k_is)
    (case l_is_back => k_is)
    (case c_is_back => k_is)
    (case k_is_back => k_is)
    (case a_is_cell => k_is)
    (case l_is_cell => k_is)
    (case c_is_cell => k_is)
    (case k_is_cell => k_is)
    (case a_is_steady => k_is)
    (case l_is_steady => k_is)
    (case c_is_steady => k_is)
    (case k_is_steady => k_is)
    (case a_least_form => k_is)
    (case l_least_form => k_is)
    (case c_least_form => k_is)
    (case k_least_form => k_is)
    (case a_set_form => k_is)
    (case l_set_form => k_is)
    (case c_set_form => k_is)
    (case k_set_form => k_is)
    (case a_shared_period => k_is)
    (case l_shared_period => k_is)
    (case c_shared_period => k_is)
    (case k_shared_period => k_is)
    (case a_trouble_of => k_is)
    (case l_trouble_of => k_is)
    (case c_trouble_of => k_is)
    (case k_trouble_of => k_is)
    (case a_turns_of => k_is)
    (case l_turns_of => k_is)
    (case c_turns_of => k_is)
    (case k_turns_of => k_is)
    (case a_Sizes___init__ => k_is)
    (case i_Sizes___init__ => k_is)
    (case l_Sizes___init__ => k_is)
    (case c_Sizes___init__ => k_is)
    (case k_Sizes___init__ => k_is)
    (case a__law_pick => k_is)
    (case l__law_pick => k_is)
    (case c__law_pick => k_is)
    (case k__law_pick => k_is)
    (case a_is_word => k_is)
    (case l_is_word => k_is)
    (case c_is_word => k_is)
    (case k_is_word => k_is)
    (case a_round_of => k_is)
    (case l_round_of => k_is)
    (case c_round_of => k_is)
    (case k_round_of => k_is)
    (case a_worked => k_is)
    (case l_worked => k_is)
    (case c_worked => k_is)
    (case k_worked => k_is)
    (case a_Ratio_plus => k_is)
    (case i_Ratio_plus => k_is)
    (case l_Ratio_plus => k_is)
    (case c_Ratio_plus => k_is)
    (case k_Ratio_plus => k_is)
    (case a__law_steady_rows => k_is)
    (case l__law_steady_rows => k_is)
    (case c__law_steady_rows => k_is)
    (case k__law_steady_rows => k_is)
    (case a_is_row => k_is)
    (case l_is_row => k_is)
    (case c_is_row => k_is)
    (case k_is_row => k_is)
    (case a_of_line => k_is)
    (case l_of_line => k_is)
    (case c_of_line => k_is)
    (case k_of_line => k_is)
    (case a_sent_round => k_is)
    (case l_sent_round => k_is)
    (case c_sent_round => k_is)
    (case k_sent_round => k_is)
    (case a_Ratio_where_divides => k_is)
    (case i_Ratio_where_divides => k_is)
    (case l_Ratio_where_divides => k_is)
    (case c_Ratio_where_divides => k_is)
    (case k_Ratio_where_divides => k_is)
    (case a_Sizes___and__ => k_is)
    (case i_Sizes___and__ => k_is)
    (case l_Sizes___and__ => k_is)
    (case c_Sizes___and__ => k_is)
    (case k_Sizes___and__ => k_is)
    (case a_Sizes___sub__ => k_is)
    (case i_Sizes___sub__ => k_is)
    (case l_Sizes___sub__ => k_is)
    (case c_Sizes___sub__ => k_is)
    (case k_Sizes___sub__ => k_is)
    (case a_all_sizes => k_is)
    (case l_all_sizes => k_is)
    (case c_all_sizes => k_is)
    (case k_all_sizes => k_is)
    (case a_check_row => k_is)
    (case l_check_row => k_is)
    (case c_check_row => k_is)
    (case k_check_row => k_is)
    (case a_from_marks => k_is)
    (case l_from_marks => k_is)
    (case c_from_marks => k_is)
    (case k_from_marks => k_is)
    (case a_from_on => k_is)
    (case l_from_on => k_is)
    (case c_from_on => k_is)
    (case k_from_on => k_is)
    (case a_Ratio_where_least => k_is)
    (case i_Ratio_where_least => k_is)
    (case l_Ratio_where_least => k_is)
    (case c_Ratio_where_least => k_is)
    (case k_Ratio_where_least => k_is)
    (case a_Sizes_within => k_is)
    (case i_Sizes_within => k_is)
    (case l_Sizes_within => k_is)
    (case c_Sizes_within => k_is)
    (case k_Sizes_within => k_is)
    (case a_check_steady => k_is)
    (case l_check_steady => k_is)
    (case c_check_steady => k_is)
    (case k_check_steady => k_is)
    (case a_fitting => k_is)
    (case l_fitting => k_is)
    (case c_fitting => k_is)
    (case k_fitting => k_is)
    (case a_sent => k_is)
    (case l_sent => k_is)
    (case c_sent => k_is)
    (case k_sent => k_is)
    (case d_sent => k_is)
    (case a_back_after => k_is)
    (case l_back_after => k_is)
    (case c_back_after => k_is)
    (case k_back_after => k_is)
    (case d_back_after => k_is)
    (case a_where_fits => k_is)
    (case l_where_fits => k_is)
    (case c_where_fits => k_is)
    (case k_where_fits => k_is)
    (case a_where_back => k_is)
    (case l_where_back => k_is)
    (case c_where_back => k_is)
    (case k_where_back => k_is)
    (case d_where_back => k_is)
    (case a_law => k_is)
    (case l_law => k_is)
    (case c_law => k_is)
    (case k_law => k_is)
    (case z_len => k_is)
    (case z_sum => k_is)
    (case z_all => k_is)
    (case z_max => k_is)
    (case z_abs => k_is)
    (case z_isinstance => k_is)
    (case z_sorted => k_is)
    (case z_int => k_is)
    (case z_tuple => k_is)
    (case z_list => k_is)
    (case z_range => k_is)
    (case z_zip => k_is)
    (case z_enumerate => k_is)
    (case z_bool => k_is)
    (case z_str => k_is)
    (case v_MOST_PERIOD_sizes => k_is)
    (case v_MOST_CELLS => k_is)
    (case v_MOST_REST => k_is)
    (case v_MOST_MOVES => k_is)
    (case v_MOST_ROWS => k_is)
    (case v_MOST_PERIOD_crossing => k_is)
    (case kd1 => k_is)
    (case kd2 => k_keys)
    (case kd3 => decide)
    (case kn_k => k_is)
    (case kl_k => k_is)
    (case kn_p => k_is)
    (case kl_p => k_is)
    (case kn_c2f => k_is)
    (case kl_c2f => k_is)
    (case kn_c2b => k_is)
    (case kl_c2b => k_is)
    (case kn_c2fw => k_is)
    (case kl_c2fw => k_is)
    (case kn_c2bw => k_is)
    (case kl_c2bw => k_is)
    (case kn_c4f => k_is)
    (case kl_c4f => k_is)
    (case kn_c4b => k_is)
    (case kl_c4b => k_is)
    (case kn_c4fw => k_is)
    (case kl_c4fw => k_is)
    (case kn_c4bw => k_is)
    (case kl_c4bw => k_is)
    (case CS_pg => k_is)
    (case CS_hd => k_is)
    (case CS_po => k_is)
    (case CS_sa => k_is)
    (case CS_mk => k_is)
    (case CS_kc => k_is)
    (case CS_n_form => k_is)
    (case CS_n_early => k_is)
    (case CS_n_start => k_is)
    (case CS_n_period => k_is)
    (case CS_n_later => k_is)
    (case CR_pg => k_is)
    (case CR_hd => k_is)
    (case CR_po => k_is)
    (case CR_sa => k_is)
    (case CR_mk => k_is)
    (case CR_kc => k_is)
    (case CR_n_base => k_is)
    (case CR_n_rise => k_is)
    (case CR_n_below => k_is)
    (case CP_pg => k_is)
    (case CP_hd => k_is)
    (case CP_po => k_is)
    (case CP_sa => k_is)
    (case CP_mk => k_is)
    (case CP_kc => k_is)
    (case CP_n_part => k_is)
    (case CP_n_place => k_is)
    (case CP_n_row => k_is)
    (case CP_n_loops => k_is)
    (case CP_n_need => k_is)
    (case selfS => k_is)
    (case neS => k_is)
    (case subS => k_is)
    (case ins1 => k_is)
    (case ins2 => k_is)
    (case ins3 => k_is)
    (case ins4 => k_is)
