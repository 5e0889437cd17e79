import PyProof.Rows.All
import Wide.All
import OpenK.AllK
import Wide.FinOn
import HandS.ForMost
import HandS.ForExc
import HandS.Wide
import HandS.IsInst
import HandS.CallSlots
import HandS.ExcIs
import HandS.ExcCtx
import HandS.HotCalls
import HandS.TupAny
import HandS.TupMul
import HandS.Deep
import PyProof.EqKinds
import HandS.WideBits
import PyProof.Rows.SeqMore
import HandS.NoneIn
import HandS.Zip
import HandS.Style
import KE.GoesMore
import PyProof.Draws
import PyProof.EnumMake
import KE.GoesEnum
import HandS.Iter
import HandS.TupSets
import HandS.More
import PySem.Challenge.RW_threadchart_k68_roots_of_eights
set_option Elab.async false
set_option linter.all false
set_option maxRecDepth 100000
set_option autoImplicit false
namespace Z
open PySem PySem.Spec PyProof.Rows L2

/-! ### data -/
inductive D where
  | non | bl (b : Bool) | int (i : Int) | str (x : Str) | tup (ds : List D) | lst (ds : List D) | dic (ks : List Key) (ds : List D) | exc (c : Nat)
/-- an exception, by the number of its class in the table, with its fields -/
structure Exc where
  c : Nat
  pl : List (Str × D)
/-- what a frame owns -/
inductive O where
  | lst (ds : List D) | dic (ks : List Key) (ds : List D)
inductive Sl where
  | no | va (d : D) | ow (o : O) | pi (o : O)
abbrev En := List Sl
inductive RE where
  | ok (d : D) (δ : En) | rz (c : Exc) (δ : En) | bad
inductive RS where
  | nx (δ : En) | rt (d : D) (δ : En) | ro (o : O) (δ : En) | bk (δ : En) | ct (δ : En) | rz (c : Exc) (δ : En) | bad
abbrev Den := En → RE
abbrev SDen := En → RS

/-! ### the program's classes of exceptions, by their names in the module; the last one is built in -/
def exNames : List Str := ["SheetError", "NoNumber", "NoSpot", "Loose", "NoScale", "NoChart", "NoMap", "NoStretch", "NoName", "NoWorth", "NoText", "NoRow", "NoEight", "Stuck", "NoFit"]
def exNm (c : Nat) : Str := exNames.getD c "ValueError"
def ctOf (K : PySem.W.Frag) (c : Nat) : Addr := match PySem.W.nsIn K mainGlobals (exNm c) with
  | some (some (.ref C)) => C
  | _ => 0
/-- a caught exception's object, as it stands -/
def ExcO (K : PySem.W.Frag) (c : Nat) (oe : Obj) : Prop := oe.cls = .ref (ctOf K c) ∧ oe.dict = none ∧ ∃ vs, oe.data = .fields vs ∧ vs[2]? = some .none
def exT (oe : Obj) : HO := .frz oe (.ext fun _ => True)
/-! ### data in the heap -/
theorem Same.seqT {K : PySem.W.Frag} {H H' : Hp} {a : Addr} {xs : List V} (e : Same H H') (h : SqT K H a xs) : SqT K H' a xs := by
  rcases h with (h | ⟨o, h⟩) | h
  · exact .inl (.inl (e _ _ h))
  · exact .inl (.inr ⟨o, e _ _ h⟩)
  · exact .inr h
mutual
inductive Rep (K : PySem.W.Frag) (H : Hp) : V → D → Prop
  | non : Rep K H .non .non
  | bl (b : Bool) : Rep K H (.bl b) (.bl b)
  | int (i : Int) : Rep K H (.int i) (.int i)
  | str (x : Str) : Rep K H (.str x) (.str x)
  | tup {a : Addr} {xs : List V} {ds : List D} : SqT K H a xs → Reps K H xs ds → Rep K H (.ref a) (.tup ds)
  | lst {a : Addr} {xs : List V} {ds : List D} : SqL K H a xs → Reps K H xs ds → Rep K H (.ref a) (.lst ds)
  | dic {a : Addr} {kvs : List (Key × V)} {ks : List Key} {xs : List V} {ds : List D} : H a = some (.dK kvs) → kvs = ks.zip xs → ks.length = xs.length → Reps K H xs ds → Rep K H (.ref a) (.dic ks ds)
  | exc {a : Addr} {oe : Obj} {c : Nat} : H a = some (exT oe) → ExcO K c oe → Rep K H (.ref a) (.exc c)
inductive Reps (K : PySem.W.Frag) (H : Hp) : List V → List D → Prop
  | nil : Reps K H [] []
  | cons {v : V} {vs : List V} {d : D} {ds : List D} : Rep K H v d → Reps K H vs ds → Reps K H (v :: vs) (d :: ds)
end
mutual
theorem Rep.mono {K : PySem.W.Frag} {H H' : Hp} (e : Same H H') : ∀ {v : V} {d : D}, Rep K H v d → Rep K H' v d
  | _, _, .non => .non
  | _, _, .bl b => .bl b
  | _, _, .int i => .int i
  | _, _, .str x => .str x
  | _, _, .tup h r => .tup (Same.seqT e h) (Reps.mono e r)
  | _, _, .lst h r => .lst (e.seq h) (Reps.mono e r)
  | _, _, .dic h q l r => .dic (e _ _ h) q l (Reps.mono e r)
  | _, _, .exc h x => .exc (e _ _ h) x
theorem Reps.mono {K : PySem.W.Frag} {H H' : Hp} (e : Same H H') : ∀ {v : List V} {d : List D}, Reps K H v d → Reps K H' v d
  | _, _, .nil => .nil
  | _, _, .cons h r => .cons (Rep.mono e h) (Reps.mono e r)
end
theorem Reps.length {K : PySem.W.Frag} {H : Hp} : ∀ {v : List V} {d : List D}, Reps K H v d → v.length = d.length
  | _, _, .nil => rfl
  | _, _, .cons _ r => by rw [List.length_cons, List.length_cons, Reps.length r]
theorem Reps.get {K : PySem.W.Frag} {H : Hp} : ∀ {vs : List V} {ds : List D} {i : Nat} {d : D}, Reps K H vs ds → ds[i]? = some d → ∃ v, vs[i]? = some v ∧ Rep K H v d
  | _, _, _, _, .nil, e => by simp at e
  | _, _, 0, _, .cons h _, e => by simp at e; subst e; exact ⟨_, rfl, h⟩
  | _, _, i + 1, _, .cons _ r, e => by
    obtain ⟨v, h1, h2⟩ := Reps.get (i := i) r (by simpa using e)
    exact ⟨v, by simpa using h1, h2⟩
theorem Reps.get' {K : PySem.W.Frag} {H : Hp} : ∀ {vs : List V} {ds : List D} {i : Nat} {v : V}, Reps K H vs ds → vs[i]? = some v → ∃ d, ds[i]? = some d ∧ Rep K H v d
  | _, _, _, _, .nil, e => by simp at e
  | _, _, 0, _, .cons h _, e => by simp at e; subst e; exact ⟨_, rfl, h⟩
  | _, _, i + 1, _, .cons _ r, e => by
    obtain ⟨v, h1, h2⟩ := Reps.get' (i := i) r (by simpa using e)
    exact ⟨v, by simpa using h1, h2⟩
theorem Reps.append {K : PySem.W.Frag} {H : Hp} : ∀ {vs ws : List V} {ds es : List D}, Reps K H vs ds → Reps K H ws es → Reps K H (vs ++ ws) (ds ++ es)
  | _, _, _, _, .nil, s => s
  | _, _, _, _, .cons h r, s => .cons h (Reps.append r s)
theorem Reps.take {K : PySem.W.Frag} {H : Hp} : ∀ (n : Nat) {vs : List V} {ds : List D}, Reps K H vs ds → Reps K H (vs.take n) (ds.take n)
  | 0, _, _, _ => .nil
  | _ + 1, _, _, .nil => .nil
  | n + 1, _, _, .cons h r => .cons h (Reps.take n r)
theorem Reps.drop {K : PySem.W.Frag} {H : Hp} : ∀ (n : Nat) {vs : List V} {ds : List D}, Reps K H vs ds → Reps K H (vs.drop n) (ds.drop n)
  | 0, _, _, r => r
  | _ + 1, _, _, .nil => .nil
  | n + 1, _, _, .cons _ r => Reps.drop n r
theorem Reps.set {K : PySem.W.Frag} {H : Hp} {v : V} {d : D} (h : Rep K H v d) : ∀ (n : Nat) {vs : List V} {ds : List D}, Reps K H vs ds → Reps K H (vs.set n v) (ds.set n d)
  | _, _, _, .nil => .nil
  | 0, _, _, .cons _ r => .cons h r
  | n + 1, _, _, .cons q r => .cons q (Reps.set h n r)
theorem Reps.ints {K : PySem.W.Frag} {H : Hp} : ∀ ns : List Int, Reps K H (ns.map V.int) (ns.map D.int)
  | [] => .nil
  | n :: r => .cons (.int n) (Reps.ints r)

/-- the exception is of the class, with these fields -/
def ExIs (K : PySem.W.Frag) (ct : Nat → Addr) (c : Exc) (cls : Value) (dd : Option Addr) (H : Hp) : Prop :=
  cls = .ref (ct c.c) ∧ ((c.pl = [] ∧ dd = none) ∨ (c.pl ≠ [] ∧ ∃ d fs, dd = some d ∧ H d = some (.xd fs) ∧ fs.map (·.1) = c.pl.map (·.1) ∧ Reps K H (fs.map (·.2)) (c.pl.map (·.2))))

/-! ### the frame: its slots, its heap -/
/-- the ghost: the heap at the def's entry, what of it is read there, the parameters that the caller owns -/
structure Gh where
  He : Hp
  Hf : Hp
  pins : List (Nat × Addr)
/-- an owned object: its items are read in H0, it itself is not -/
def OwnAt (K : PySem.W.Frag) (H0 H : Hp) (a : Addr) : O → Prop
  | .lst ds => ∃ vs, H a = some (.lst vs) ∧ Reps K H0 vs ds
  | .dic ks ds => ∃ vs, H a = some (.dK (ks.zip vs)) ∧ ks.length = vs.length ∧ Reps K H0 vs ds
def SlOk (K : PySem.W.Frag) (G : Gh) (H0 H : Hp) (i : Nat) : Sl → Option V → Prop
  | .no, _ => True
  | .va d, x => ∃ v, x = some v ∧ Rep K H0 v d
  | .ow o, x => ∃ a, x = some (.ref a) ∧ H0 a = none ∧ G.He a = none ∧ OwnAt K H0 H a o
  | .pi o, x => ∃ a, x = some (.ref a) ∧ H0 a = none ∧ G.He a = none ∧ OwnAt K H0 H a o ∧ (i, a) ∈ G.pins
def isOwn : Sl → Bool
  | .ow _ => true
  | .pi _ => true
  | _ => false
structure Rl (K : PySem.W.Frag) (G : Gh) (δ : En) (σ : L2.St) (H0 H : Hp) : Prop where
  hs : Same H0 H
  he : Same G.He H
  hf : Same G.Hf H0
  hn : ∀ b, G.He b ≠ none → H0 b = G.Hf b
  len : δ.length = σ.length
  sl : ∀ (i : Nat) (s : Sl) (x : Option V), δ[i]? = some s → σ[i]? = some x → SlOk K G H0 H i s x
  dj : ∀ (i j : Nat) (s t : Sl) (a : Addr), i ≠ j → δ[i]? = some s → δ[j]? = some t → isOwn s = true → isOwn t = true → σ[i]? = some (some (V.ref a)) → σ[j]? = some (some (V.ref a)) → False
  pn : ∀ (i : Nat) (a : Addr), (i, a) ∈ G.pins → ∃ o, δ[i]? = some (.pi o) ∧ σ[i]? = some (some (V.ref a))
theorem OwnAt.some_ {K : PySem.W.Frag} {H0 H : Hp} {a : Addr} {o : O} (h : OwnAt K H0 H a o) : H a ≠ none := by
  cases o with
  | lst ds => obtain ⟨vs, e, _⟩ := h; rw [e]; simp
  | dic ks ds => obtain ⟨vs, e, _⟩ := h; rw [e]; simp
theorem OwnAt.mono {K : PySem.W.Frag} {H0 H H0' H' : Hp} {a : Addr} {o : O} (h : OwnAt K H0 H a o) (s : Same H0 H0') (e : H' a = H a) : OwnAt K H0' H' a o := by
  cases o with
  | lst ds => obtain ⟨vs, q, r⟩ := h; exact ⟨vs, by rw [e, q], r.mono s⟩
  | dic ks ds => obtain ⟨vs, q, l, r⟩ := h; exact ⟨vs, by rw [e, q], l, r.mono s⟩
/-- growth of the heap that leaves what the frame has -/
structure Gr (H0 H H0' H' : Hp) : Prop where
  hs : Same H H'
  h0 : Same H0 H0'
  s' : Same H0' H'
  hn : ∀ b, H b ≠ none → H0' b = H0 b
theorem Gr.refl {H0 H : Hp} (h : Same H0 H) : Gr H0 H H0 H := ⟨Same.refl _, Same.refl _, h, fun _ _ => rfl⟩
theorem Gr.trans {H0 H H1 J H2 L : Hp} (a : Gr H0 H H1 J) (b : Gr H1 J H2 L) : Gr H0 H H2 L :=
  ⟨a.hs.trans b.hs, a.h0.trans b.h0, b.s', fun c e => by
    have e' : J c ≠ none := by
      cases q : H c with
      | none => exact absurd q e
      | some o => rw [a.hs c o q]; simp
    rw [b.hn c e', a.hn c e]⟩
section
variable {K : PySem.W.Frag} {G : Gh} {δ : En} {σ : L2.St} {H0 H H0' H' : Hp}
theorem SlOk.grow {i : Nat} {s : Sl} {x : Option V} (h : SlOk K G H0 H i s x) (g : Gr H0 H H0' H') : SlOk K G H0' H' i s x := by
  have key : ∀ {a : Addr} {o : O}, H0 a = none → OwnAt K H0 H a o → H0' a = none ∧ OwnAt K H0' H' a o := fun {a o} n w => by
    have ne := w.some_
    refine ⟨by rw [g.hn a ne, n], w.mono g.h0 ?_⟩
    cases q : H a with
    | none => exact absurd q ne
    | some z => exact g.hs a z q
  cases s with
  | no => trivial
  | va d => obtain ⟨v, e, r⟩ := h; exact ⟨v, e, r.mono g.h0⟩
  | ow o => obtain ⟨a, e, n, f, w⟩ := h; exact ⟨a, e, (key n w).1, f, (key n w).2⟩
  | pi o => obtain ⟨a, e, n, f, w, p⟩ := h; exact ⟨a, e, (key n w).1, f, (key n w).2, p⟩
theorem Rl.grow (R : Rl K G δ σ H0 H) (g : Gr H0 H H0' H') : Rl K G δ σ H0' H' where
  hs := g.s'
  he := R.he.trans g.hs
  hf := R.hf.trans g.h0
  hn := fun b e => by
    have e' : H b ≠ none := by
      cases q : G.He b with
      | none => exact absurd q e
      | some o => rw [R.he b o q]; simp
    rw [g.hn b e', R.hn b e]
  len := R.len
  sl := fun i s x a b => (R.sl i s x a b).grow g
  dj := R.dj
  pn := R.pn
/-- a new object that is read -/
theorem Gr.new {p : Addr} {o : HO} (s : Same H0 H) (n : H p = none) : Gr H0 H (upd H0 p o) (upd H p o) := by
  have n0 : H0 p = none := s.free n
  refine ⟨fun b u e => by rw [upd_ne (ne_of_none e n)]; exact e, fun b u e => by rw [upd_ne (ne_of_none e n0)]; exact e, fun b u e => ?_, fun b e => ?_⟩
  · by_cases hb : b = p
    · subst hb; rw [upd_same] at e; rw [upd_same]; exact e
    · rw [upd_ne hb] at e; rw [upd_ne hb]; exact s b u e
  · have hb : b ≠ p := fun z => e (by rw [z]; exact n)
    rw [upd_ne hb]
/-- a slot is stored -/
theorem Rl.set_va {i : Nat} {v : V} {d : D} (R : Rl K G δ σ H0 H) (r : Rep K H0 v d) (np : ∀ o, δ[i]? ≠ some (.pi o)) : Rl K G (δ.set i (.va d)) (σ.set i (some v)) H0 H where
  hs := R.hs
  he := R.he
  hf := R.hf
  hn := R.hn
  len := by rw [List.length_set, List.length_set, R.len]
  sl := fun j s x a b => by
    by_cases hj : i = j
    · subst hj
      by_cases hl : i < δ.length
      · rw [List.getElem?_set_self hl] at a
        rw [List.getElem?_set_self (by rw [← R.len]; exact hl)] at b
        cases a; cases b
        exact ⟨v, rfl, r⟩
      · rw [List.getElem?_eq_none (by simpa using hl)] at a; cases a
    · rw [List.getElem?_set_ne hj] at a b
      exact R.sl j s x a b
  dj := fun j k s t a ne e1 e2 o1 o2 f1 f2 => by
    by_cases hj : i = j
    · subst hj
      by_cases hl : i < δ.length
      · rw [List.getElem?_set_self hl] at e1; cases e1; cases o1
      · rw [List.getElem?_eq_none (by simpa using hl)] at e1; cases e1
    · by_cases hk : i = k
      · subst hk
        by_cases hl : i < δ.length
        · rw [List.getElem?_set_self hl] at e2; cases e2; cases o2
        · rw [List.getElem?_eq_none (by simpa using hl)] at e2; cases e2
      · rw [List.getElem?_set_ne hj] at e1 f1
        rw [List.getElem?_set_ne hk] at e2 f2
        exact R.dj j k s t a ne e1 e2 o1 o2 f1 f2
  pn := fun j a hp => by
    obtain ⟨o, e1, e2⟩ := R.pn j a hp
    have hj : i ≠ j := fun z => np o (z ▸ e1)
    exact ⟨o, by rw [List.getElem?_set_ne hj]; exact e1, by rw [List.getElem?_set_ne hj]; exact e2⟩
/-- an owned slot is handed on: it is read from now on, no longer written -/
theorem Rl.freeze {i : Nat} {a : Addr} {d : D} {o : O} {u : HO} (R : Rl K G δ σ H0 H) (hi : δ[i]? = some (.ow o)) (hσ : σ[i]? = some (some (V.ref a))) (hu : H a = some u) (n0 : H0 a = none) (ne : G.He a = none)
    (r : Rep K (upd H0 a u) (.ref a) d) : Rl K G (δ.set i (.va d)) σ (upd H0 a u) H := by
  have s1 : Same H0 (upd H0 a u) := fun b w e => by rw [upd_ne (ne_of_none e n0)]; exact e
  have hl : i < δ.length := (List.getElem?_eq_some_iff.mp hi).1
  refine ⟨fun b w e => ?_, R.he, R.hf.trans s1, fun b e => ?_, by rw [List.length_set, R.len], fun j s x h1 h2 => ?_, fun j k s t c ne' e1 e2 o1 o2 f1 f2 => ?_, fun j c hp => ?_⟩
  · by_cases hb : b = a
    · subst hb; rw [upd_same] at e; cases e; exact hu
    · rw [upd_ne hb] at e; exact R.hs b w e
  · have hb : b ≠ a := fun z => e (by rw [z]; exact ne)
    rw [upd_ne hb]; exact R.hn b e
  · by_cases hj : i = j
    · subst hj
      rw [List.getElem?_set_self hl] at h1
      cases h1
      rw [hσ] at h2; cases h2
      exact ⟨_, rfl, r⟩
    · rw [List.getElem?_set_ne hj] at h1
      have q := R.sl j s x h1 h2
      have nea : ∀ c, isOwn s = true → x = some (.ref c) → c ≠ a := fun c ho hx z => by
        subst hx z
        exact R.dj i j _ s c hj hi h1 rfl ho hσ h2
      cases s with
      | no => trivial
      | va d => obtain ⟨v, e, r⟩ := q; exact ⟨v, e, r.mono s1⟩
      | ow o => obtain ⟨c, e, n, f, w⟩ := q; exact ⟨c, e, by rw [upd_ne (nea c rfl e)]; exact n, f, w.mono s1 rfl⟩
      | pi o => obtain ⟨c, e, n, f, w, p⟩ := q; exact ⟨c, e, by rw [upd_ne (nea c rfl e)]; exact n, f, w.mono s1 rfl, p⟩
  · have hj : i ≠ j := fun z => by subst z; rw [List.getElem?_set_self hl] at e1; cases e1; cases o1
    have hk : i ≠ k := fun z => by subst z; rw [List.getElem?_set_self hl] at e2; cases e2; cases o2
    rw [List.getElem?_set_ne hj] at e1
    rw [List.getElem?_set_ne hk] at e2
    exact R.dj j k s t c ne' e1 e2 o1 o2 f1 f2
  · obtain ⟨o', e1, e2⟩ := R.pn j c hp
    have hj : i ≠ j := fun z => by subst z; rw [hi] at e1; cases e1
    exact ⟨o', by rw [List.getElem?_set_ne hj]; exact e1, e2⟩
/-- a slot takes a new owned object -/
theorem Rl.set_ow {i : Nat} {a : Addr} {o : O} (R : Rl K G δ σ H0 H) (n0 : H0 a = none) (ne : G.He a = none) (w : OwnAt K H0 H a o) (np : ∀ o, δ[i]? ≠ some (.pi o))
    (nw : ∀ (j : Nat) (s : Sl), δ[j]? = some s → isOwn s = true → σ[j]? ≠ some (some (V.ref a))) : Rl K G (δ.set i (.ow o)) (σ.set i (some (.ref a))) H0 H where
  hs := R.hs
  he := R.he
  hf := R.hf
  hn := R.hn
  len := by rw [List.length_set, List.length_set, R.len]
  sl := fun j s x h1 h2 => by
    by_cases hj : i = j
    · subst hj
      by_cases hl : i < δ.length
      · rw [List.getElem?_set_self hl] at h1
        rw [List.getElem?_set_self (by rw [← R.len]; exact hl)] at h2
        cases h1; cases h2
        exact ⟨a, rfl, n0, ne, w⟩
      · rw [List.getElem?_eq_none (by simpa using hl)] at h1; cases h1
    · rw [List.getElem?_set_ne hj] at h1 h2
      exact R.sl j s x h1 h2
  dj := fun j k s t c ne' e1 e2 o1 o2 f1 f2 => by
    by_cases hl : i < δ.length
    · have hl' : i < σ.length := by rw [← R.len]; exact hl
      by_cases hj : i = j
      · subst hj
        have hk : i ≠ k := ne'
        rw [List.getElem?_set_self hl'] at f1
        cases f1
        rw [List.getElem?_set_ne hk] at e2 f2
        exact nw k t e2 o2 f2
      · rw [List.getElem?_set_ne hj] at e1 f1
        by_cases hk : i = k
        · subst hk
          rw [List.getElem?_set_self hl'] at f2
          cases f2
          exact nw j s e1 o1 f1
        · rw [List.getElem?_set_ne hk] at e2 f2
          exact R.dj j k s t c ne' e1 e2 o1 o2 f1 f2
    · have e : δ.set i (.ow o) = δ := List.set_eq_of_length_le (by omega)
      have e' : σ.set i (some (.ref a)) = σ := List.set_eq_of_length_le (by rw [← R.len]; omega)
      rw [e] at e1 e2
      rw [e'] at f1 f2
      exact R.dj j k s t c ne' e1 e2 o1 o2 f1 f2
  pn := fun j c hp => by
    obtain ⟨o', e1, e2⟩ := R.pn j c hp
    have hj : i ≠ j := fun z => np o' (z ▸ e1)
    exact ⟨o', by rw [List.getElem?_set_ne hj]; exact e1, by rw [List.getElem?_set_ne hj]; exact e2⟩
/-- an owned object is written -/
theorem Rl.write {i : Nat} {a : Addr} {s s' : Sl} {u : HO} {o' : O} (R : Rl K G δ σ H0 H) (hi : δ[i]? = some s) (hs : isOwn s = true) (hs' : s' = (match s with | .pi _ => .pi o' | _ => .ow o')) (hσ : σ[i]? = some (some (V.ref a)))
    (n0 : H0 a = none) (ne : G.He a = none) (w : OwnAt K H0 (upd H a u) a o') : Rl K G (δ.set i s') σ H0 (upd H a u) := by
  have hl : i < δ.length := (List.getElem?_eq_some_iff.mp hi).1
  have own' : isOwn s' = true := by
    subst hs'
    cases s <;> first | rfl | cases hs
  refine ⟨fun b w e => ?_, fun b w e => ?_, R.hf, R.hn, by rw [List.length_set, R.len], fun j t x h1 h2 => ?_, fun j k sa sb c ne' e1 e2 o1 o2 f1 f2 => ?_, fun j c hp => ?_⟩
  · rw [upd_ne (ne_of_none e n0)]; exact R.hs b w e
  · rw [upd_ne (ne_of_none e ne)]; exact R.he b w e
  · by_cases hj : i = j
    · subst hj
      rw [List.getElem?_set_self hl] at h1
      cases h1
      rw [hσ] at h2; cases h2
      have q := R.sl i s _ hi hσ
      subst hs'
      cases s with
      | no => cases hs
      | va d => cases hs
      | ow o => exact ⟨a, rfl, n0, ne, w⟩
      | pi o =>
        obtain ⟨c, e, _, _, _, p⟩ := q
        cases e
        exact ⟨a, rfl, n0, ne, w, p⟩
    · rw [List.getElem?_set_ne hj] at h1
      have q := R.sl j t x h1 h2
      have nea : ∀ c, isOwn t = true → x = some (.ref c) → c ≠ a := fun c ho hx z => by
        subst hx z
        exact R.dj i j _ t c hj hi h1 hs ho hσ h2
      cases t with
      | no => trivial
      | va d => exact q
      | ow o => obtain ⟨c, e, n, f, w⟩ := q; exact ⟨c, e, n, f, w.mono (Same.refl _) (upd_ne (nea c rfl e))⟩
      | pi o => obtain ⟨c, e, n, f, w, p⟩ := q; exact ⟨c, e, n, f, w.mono (Same.refl _) (upd_ne (nea c rfl e)), p⟩
  · have key : ∀ {j : Nat} {t : Sl}, (δ.set i s')[j]? = some t → isOwn t = true → ∃ t', δ[j]? = some t' ∧ isOwn t' = true := fun {j t} e o => by
      by_cases hj : i = j
      · subst hj; exact ⟨s, hi, hs⟩
      · rw [List.getElem?_set_ne hj] at e; exact ⟨t, e, o⟩
    obtain ⟨s1, q1, p1⟩ := key e1 o1
    obtain ⟨s2, q2, p2⟩ := key e2 o2
    exact R.dj j k s1 s2 c ne' q1 q2 p1 p2 f1 f2
  · obtain ⟨o, e1, e2⟩ := R.pn j c hp
    by_cases hj : i = j
    · subst hj
      rw [hi] at e1
      cases e1
      subst hs'
      exact ⟨o', by rw [List.getElem?_set_self hl], e2⟩
    · exact ⟨o, by rw [List.getElem?_set_ne hj]; exact e1, e2⟩
end
end Z

namespace ZV
open PySem PySem.Spec PyProof.Rows L2
theorem dict_eq_declines_str (l : Addr) (es : Array DictEntry) (n : Nat) (dd : Option Addr) (sl : Array (Option Value)) (b : Str) (u : Tok) :
    Meets (Builtin.«dict.__eq__» ⟨[.ref l, .str b u], []⟩) (fun _ R s => s.heap.get? l = some { cls := .type "dict", dict := dd, data := .dict es n, slots := sl } ∧ R (.ok (.ret .notImplemented)) s) :=
  .of_wp fun prog w A R s h => by
    obtain ⟨hp, g, d, tk, os⟩ := s; obtain ⟨hl, h⟩ := h
    have f1 := F.sub_str_dict
    wp_walk using AutoSeq1.wpAny_loadPart' hl
    exact ⟨_, rfl, h⟩
theorem str_eq_declines_dict (b : Str) (u : Tok) (l : Addr) (es : Array DictEntry) (n : Nat) (dd : Option Addr) (sl : Array (Option Value)) :
    Meets (Builtin.«str.__eq__» ⟨[.str b u, .ref l], []⟩) (fun _ R s => s.heap.get? l = some { cls := .type "dict", dict := dd, data := .dict es n, slots := sl } ∧ R (.ok (.ret .notImplemented)) s) :=
  .of_wp fun prog w A R s h => by obtain ⟨hp, g, d, tk, os⟩ := s; obtain ⟨hl, h⟩ := h; wp_walk using AutoSeq1.wpAny_loadPart' hl, wpAny_load hl; exact ⟨_, rfl, h⟩
/-- a dict and a text: never equal -/
def rEqDS : R2 := fun x y H Q => ∃ (a : Addr) (b : Str) (kvs : List (Key × V)), x = .ref a ∧ y = .str b ∧ H a = some (.dK kvs) ∧ Q (.bl false) H
theorem op_eqDS {X : Cx} (hu : X.A.units < cLine) : OpR X (compareOp .Eq) rEqDS := by
  intro pins s σ H x y v u Q I rx ry h
  obtain ⟨a, b, kvs, rfl, rfl, hk, q⟩ := h
  cases rx
  obtain ⟨t, rfl⟩ := ry
  obtain ⟨_, _, _, _, o, es, n, ho, ex, hd, _⟩ := I.hok a _ hk
  obtain ⟨cls, dd, dt, sl⟩ := o
  obtain ⟨e1, e2, e3⟩ := ex
  simp only at e1 e2 e3 hd
  subst e1 e2 e3 hd
  show wpAny _ _ (richCompare .Eq (.ref a) (.str b t)) _ _ s
  exact SeqAt.rc_eq_decline_or (k := false) ⟨_, ho, rfl⟩ (typeIs_str s b t) (by decide) F.sub_str_dict F.slot_dict_eq F.slot_str_eq_refl
    (fun _ hq => call_meets F.slot_dict_eq ⟨_, ho, rfl⟩ F.entry_dict_eq (F.args_dict_eq_2 _ _) (dict_eq_declines_str a es n none #[] b t) ⟨ho, hq⟩)
    (fun _ hq => call_meets F.slot_str_eq_refl (typeIs_str s b t) F.entry_str_eq (F.args_str_eq_2 _ _) (str_eq_declines_dict b t a es n none #[]) ⟨ho, hq⟩)
    (fun _ hq => wpAny_of_eq (rfl : isSame (.ref a) (.str b t) = pure false) hq) (.inr hu) ⟨.bl false, H, I, rfl, q⟩
end ZV

namespace Z
open PySem PySem.Spec PyProof.Rows L2

/-! ### operations on data -/
mutual
def toPy : D → PyData
  | .non => .none
  | .bl b => .bool b
  | .int i => .int i
  | .str x => .str x
  | .tup ds => .tuple (toPys ds)
  | .lst ds => .list (toPys ds)
  | .dic _ _ => .dict []
  | .exc _ => .dict []
def toPys : List D → List PyData
  | [] => []
  | d :: ds => toPy d :: toPys ds
end
def eqD (d e : D) : Option Bool := if SeqAt.shaped (toPy d) && SeqAt.shaped (toPy e) then some (PyData.eqv (toPy d) (toPy e)) else none
/-- a dict is no text -/
def eqX (d e : D) : Option Bool := match d, e with
  | .dic _ _, .str _ => some false
  | d, e => eqD d e
def tyD : D → String
  | .non => "NoneType"
  | .bl _ => "bool"
  | .int _ => "int"
  | .str _ => "str"
  | .tup _ => "tuple"
  | .lst _ => "list"
  | .dic _ _ => "dict"
  | .exc _ => ""
/-- the bits of both factors together -/
def mulOk (i j : Int) : Bool := decide (i.natAbs.log2 + j.natAbs.log2 < 60000000)
def divOk (j : Int) : Bool := decide (j ≠ 0) && decide (j.natAbs.log2 < 9000)
def powOk (i j : Int) : Bool := decide (0 ≤ j) && decide (j ≤ 1000000) && decide (i.natAbs < 2 ^ 64)
inductive BOp where
  | add | sub | mul | fdiv | mod | pow | shl
def BOp.op : BOp → Operator
  | .add => .Add
  | .sub => .Sub
  | .mul => .Mult
  | .fdiv => .FloorDiv
  | .mod => .Mod
  | .pow => .Pow
  | .shl => .LShift
/-- two of a kind put together -/
def catD : D → D → Option D
  | .str a, .str b => if a.length + b.length ≤ 1000000 then some (.str (a ++ b)) else none
  | .tup a, .tup b => if a.length + b.length ≤ 1000000 then some (.tup (a ++ b)) else none
  | .lst a, .lst b => if a.length + b.length ≤ 1000000 then some (.lst (a ++ b)) else none
  | _, _ => none
def addD : D → D → Option D
  | .int i, .int j => some (.int (i + j))
  | d, e => catD d e
def subD : D → D → Option D
  | .int i, .int j => some (.int (i - j))
  | _, _ => none
def mulD : D → D → Option D
  | .int i, .int j => if mulOk i j then some (.int (i * j)) else none
  | .tup ds, .int k => if !ds.isEmpty && decide (2 ≤ k) && decide (k ≤ 1000) && decide (ds.length ≤ 1000) then some (.tup (List.replicate k.toNat ds).flatten) else none
  | _, _ => none
def fdivD : D → D → Option D
  | .int i, .int j => if divOk j then some (.int (i.fdiv j)) else none
  | _, _ => none
def modD : D → D → Option D
  | .int i, .int j => if j = 0 then none else some (.int (i.fmod j))
  | _, _ => none
def powD : D → D → Option D
  | .int i, .int j => if powOk i j then some (.int (i ^ j.toNat)) else none
  | _, _ => none
def shlOk (i j : Int) : Bool := decide (0 ≤ j) && decide ((Builtin.Int.intBits i : Int) + j ≤ 134217728)
def shlD : D → D → Option D
  | .int i, .int j => if shlOk i j then some (.int (i * 2 ^ j.toNat)) else none
  | _, _ => none
def BOp.fn : BOp → D → D → Option D
  | .add => addD
  | .sub => subD
  | .mul => mulD
  | .fdiv => fdivD
  | .mod => modD
  | .pow => powD
  | .shl => shlD
inductive COp where
  | eq | ne | lt | le | gt | ge | isin | notin
def COp.op : COp → CmpOp
  | .eq => .Eq
  | .ne => .NotEq
  | .lt => .Lt
  | .le => .LtE
  | .gt => .Gt
  | .ge => .GtE
  | .isin => .In
  | .notin => .NotIn
def flatD : D → Bool
  | .non => true
  | .bl _ => true
  | .int _ => true
  | .str _ => true
  | _ => false
def vD : D → V
  | .non => .non
  | .bl b => .bl b
  | .int i => .int i
  | .str x => .str x
  | _ => .non
/-- d in e -/
def inD (d e : D) : Option Bool :=
  match e with
  | .lst ds => if SeqAt.shaped (toPy d) && SeqAt.shaped (.list (toPys ds)) then some ((toPys ds).any fun z => PyData.eqv z (toPy d)) else none
  | .tup ds => if flatD d && ds.all flatD then some (inV (vD d) (ds.map vD)) else none
  | .str b => (match d with
    | .str a => some (!(Builtin.Str.occurrences b a 0 b.length 1).isEmpty)
    | _ => none)
  | _ => none
def cmpI (p : Int → Int → Bool) : D → D → Option D
  | .int i, .int j => some (.bl (p i j))
  | _, _ => none
def COp.fn : COp → D → D → Option D
  | .eq => fun d e => (eqX d e).map D.bl
  | .ne => fun d e => (eqD d e).map fun b => D.bl (!b)
  | .lt => cmpI fun i j => decide (i < j)
  | .le => cmpI fun i j => decide (i ≤ j)
  | .gt => cmpI fun i j => decide (j < i)
  | .ge => cmpI fun i j => decide (j ≤ i)
  | .isin => fun d e => (inD d e).map D.bl
  | .notin => fun d e => (inD d e).map fun b => D.bl (!b)

/-! ### meanings -/
def bindE (r : RE) (k : D → En → RE) : RE :=
  match r with
  | .ok d δ => k d δ
  | .rz c δ => .rz c δ
  | .bad => .bad
def ofO (o : Option D) (δ : En) : RE :=
  match o with
  | some d => .ok d δ
  | none => .bad
def ownD : O → D
  | .lst ds => .lst ds
  | .dic ks ds => .dic ks ds
def dVar (i : Nat) : Den := fun δ =>
  match δ[i]? with
  | some (.va d) => .ok d δ
  | some (.ow o) => .ok (ownD o) (δ.set i (.va (ownD o)))
  | _ => .bad
def dCst (d : D) : Den := fun δ => .ok d δ
def dBin (g : D → D → Option D) (fa fb : Den) : Den := fun δ => bindE (fa δ) fun x δ1 => bindE (fb δ1) fun y δ2 => ofO (g x y) δ2
def dUn (g : D → Option D) (fa : Den) : Den := fun δ => bindE (fa δ) fun x δ1 => ofO (g x) δ1
inductive RA where
  | ok (ds : List D) (δ : En) | rz (c : Exc) (δ : En) | bad
def bindA (r : RA) (k : List D → En → RE) : RE :=
  match r with
  | .ok d δ => k d δ
  | .rz c δ => .rz c δ
  | .bad => .bad
def consA (r : RE) (k : D → En → RA) : RA :=
  match r with
  | .ok d δ => k d δ
  | .rz c δ => .rz c δ
  | .bad => .bad
def bindAA (r : RA) (k : List D → En → RA) : RA :=
  match r with
  | .ok d δ => k d δ
  | .rz c δ => .rz c δ
  | .bad => .bad
def dArgs : List Den → En → RA
  | [], δ => .ok [] δ
  | f :: fs, δ => consA (f δ) fun d δ1 => bindAA (dArgs fs δ1) fun ds δ2 => .ok (d :: ds) δ2
def dTup (fs : List Den) : Den := fun δ => bindA (dArgs fs δ) fun ds δ1 => if ds.length ≤ 1000000 then .ok (.tup ds) δ1 else .bad
def dLst (fs : List Den) : Den := fun δ => bindA (dArgs fs δ) fun ds δ1 => if ds.length ≤ 1000000 then .ok (.lst ds) δ1 else .bad
/-- a pure function of data; ow: what it gives is the caller's own; okp, owp: and what its taken thing holds now -/
inductive RD where
  | ok (d : D) | ow (o : O) | okp (d : D) (o : O) | owp (r o : O) | rz (c : Exc) | bad
def dBi (g : List D → Option D) (fs : List Den) : Den := fun δ => bindA (dArgs fs δ) fun ds δ1 => ofO (g ds) δ1
def ofD (r : RD) (δ : En) : RE :=
  match r with
  | .ok d => .ok d δ
  | .ow o => .ok (ownD o) δ
  | .rz c => .rz c δ
  | _ => .bad
def dCall (g : List D → RD) (fs : List Den) : Den := fun δ => bindA (dArgs fs δ) fun ds δ1 => ofD (g ds) δ1
/-- a test -/
def bindT (r : RE) (k : Bool → En → RE) : RE := bindE r fun d δ => match d with
  | .bl b => k b δ
  | _ => .bad
def notD : D → Option D
  | .bl b => some (.bl (!b))
  | _ => none
def dAnd (fa fb : Den) : Den := fun δ => bindT (fa δ) fun b δ1 => if b then fb δ1 else .ok (.bl false) δ1
def dOr (fa fb : Den) : Den := fun δ => bindT (fa δ) fun b δ1 => if b then .ok (.bl true) δ1 else fb δ1
def dIte (fc fa fb : Den) : Den := fun δ => bindT (fc δ) fun b δ1 => if b then fa δ1 else fb δ1
def isnD (neg : Bool) (d : D) : Option D := match d with
  | .non => some (.bl (!neg))
  | _ => some (.bl neg)

/-- what is wanted of an exception; the classes' places -/
structure Wi where
  w : WX
  ct : Nat → Addr
/-! ### what a reading asks -/
section
variable (K : PySem.W.Frag) (W : Wi) (G : Gh) (σ : L2.St)
def PoE (H0 : Hp) (r : RE) (Q : VK) : Prop :=
  match r with
  | .ok d δ => ∀ v H0' H', Rl K G δ σ H0' H' → Same H0 H0' → Rep K H0' v d → Q v H'
  | .rz c δ => ∀ cls dd H0' H', Rl K G δ σ H0' H' → Same H0 H0' → ExIs K W.ct c cls dd H' → W.w cls dd σ H'
  | .bad => False
def PoT (H0 : Hp) (r : RE) (Q : Bool → Hp → Prop) : Prop :=
  match r with
  | .ok d δ => ∃ b, d = .bl b ∧ ∀ H0' H', Rl K G δ σ H0' H' → Same H0 H0' → Q b H'
  | .rz c δ => ∀ cls dd H0' H', Rl K G δ σ H0' H' → Same H0 H0' → ExIs K W.ct c cls dd H' → W.w cls dd σ H'
  | .bad => False
def PoA (H0 : Hp) (r : RA) (Q : List V → Hp → Prop) : Prop :=
  match r with
  | .ok ds δ => ∀ vs H0' H', Rl K G δ σ H0' H' → Same H0 H0' → Reps K H0' vs ds → Q vs H'
  | .rz c δ => ∀ cls dd H0' H', Rl K G δ σ H0' H' → Same H0 H0' → ExIs K W.ct c cls dd H' → W.w cls dd σ H'
  | .bad => False
end
def tM (K : PySem.W.Frag) (W : Wi) (f : Den) : TE := fun σ H Q => ∃ G δ H0, Rl K G δ σ H0 H ∧ PoE K W G σ H0 (f δ) Q
def tT (K : PySem.W.Frag) (W : Wi) (f : Den) : TT := fun σ H Q => ∃ G δ H0, Rl K G δ σ H0 H ∧ PoT K W G σ H0 (f δ) Q
def tA (K : PySem.W.Frag) (W : Wi) (f : En → RA) : TA := fun σ H Q => ∃ G δ H0, Rl K G δ σ H0 H ∧ PoA K W G σ H0 (f δ) Q
theorem PE_imp {X : Cx} {e : Expr} {t t' : TE} (h : PE X e t) (i : ∀ σ H Q, t' σ H Q → t σ H Q) : PE X e t' := ⟨fun pins s σ H Q I q => h.run pins s σ H Q I (i σ H Q q)⟩
theorem PT_imp {X : Cx} {e : Expr} {t t' : TT} (h : PT X e t) (i : ∀ σ H Q, t' σ H Q → t σ H Q) : PT X e t' := ⟨fun pins s σ H Q I q => h.run pins s σ H Q I (i σ H Q q)⟩
theorem PA_imp {X : Cx} {e : List Expr} {t t' : TA} (h : PA X e t) (i : ∀ σ H Q, t' σ H Q → t σ H Q) : PA X e t' := ⟨fun pos pins s σ H Q I q => h.run pos pins s σ H Q I (i σ H Q q)⟩
theorem PS_imp {X : Cx} {e : Stmt} {t t' : TS} (h : PS X e t) (i : ∀ D σ H, t' D σ H → t D σ H) : PS X e t' := ⟨fun pins s σ H D I q => h.run pins s σ H D I (i D σ H q)⟩
theorem PSs_imp {X : Cx} {e : List Stmt} {t t' : TS} (h : PSs X e t) (i : ∀ D σ H, t' D σ H → t D σ H) : PSs X e t' := ⟨fun pins s σ H D I q => h.run pins s σ H D I (i D σ H q)⟩
section
variable {K : PySem.W.Frag} {W : Wi} {G : Gh} {σ : L2.St} {H0 H0' : Hp} {r : RE} {Q Q' : VK}
theorem PoE.up (h : PoE K W G σ H0 r Q) (s : Same H0 H0') : PoE K W G σ H0' r Q := by
  cases r with
  | ok d δ => exact fun v H0'' H' R s' p => h v H0'' H' R (s.trans s') p
  | rz c δ => exact fun cls dd H0'' H' R s' => h cls dd H0'' H' R (s.trans s')
  | bad => exact h
theorem PoA.up {r : RA} {Q : List V → Hp → Prop} (h : PoA K W G σ H0 r Q) (s : Same H0 H0') : PoA K W G σ H0' r Q := by
  cases r with
  | ok d δ => exact fun v H0'' H' R s' p => h v H0'' H' R (s.trans s') p
  | rz c δ => exact fun cls dd H0'' H' R s' => h cls dd H0'' H' R (s.trans s')
  | bad => exact h
theorem PoT.up {Q : Bool → Hp → Prop} (h : PoT K W G σ H0 r Q) (s : Same H0 H0') : PoT K W G σ H0' r Q := by
  cases r with
  | ok d δ => obtain ⟨b, e, h⟩ := h; exact ⟨b, e, fun H0'' H' R s' => h H0'' H' R (s.trans s')⟩
  | rz c δ => exact fun cls dd H0'' H' R s' => h cls dd H0'' H' R (s.trans s')
  | bad => exact h
theorem PoE.bind {k : D → En → RE} (h : PoE K W G σ H0 (bindE r k) Q)
    (hk : ∀ d δ v H1 H', Rl K G δ σ H1 H' → Same H0 H1 → Rep K H1 v d → PoE K W G σ H1 (k d δ) Q → Q' v H') : PoE K W G σ H0 r Q' := by
  cases r with
  | ok d δ => exact fun v H1 H' R s p => hk d δ v H1 H' R s p (h.up s)
  | rz c δ => exact h
  | bad => exact h
theorem PoA.bind {r : RA} {Q' : List V → Hp → Prop} {k : List D → En → RE} (h : PoE K W G σ H0 (bindA r k) Q)
    (hk : ∀ d δ v H1 H', Rl K G δ σ H1 H' → Same H0 H1 → Reps K H1 v d → PoE K W G σ H1 (k d δ) Q → Q' v H') : PoA K W G σ H0 r Q' := by
  cases r with
  | ok d δ => exact fun v H1 H' R s p => hk d δ v H1 H' R s p (h.up s)
  | rz c δ => exact h
  | bad => exact h
theorem PoE.consA {k : D → En → RA} {Q : List V → Hp → Prop} (h : PoA K W G σ H0 (consA r k) Q)
    (hk : ∀ d δ v H1 H', Rl K G δ σ H1 H' → Same H0 H1 → Rep K H1 v d → PoA K W G σ H1 (k d δ) Q → Q' v H') : PoE K W G σ H0 r Q' := by
  cases r with
  | ok d δ => exact fun v H1 H' R s p => hk d δ v H1 H' R s p (h.up s)
  | rz c δ => exact h
  | bad => exact h
theorem PoA.bindAA {r : RA} {k : List D → En → RA} {Q Q' : List V → Hp → Prop} (h : PoA K W G σ H0 (bindAA r k) Q)
    (hk : ∀ d δ v H1 H', Rl K G δ σ H1 H' → Same H0 H1 → Reps K H1 v d → PoA K W G σ H1 (k d δ) Q → Q' v H') : PoA K W G σ H0 r Q' := by
  cases r with
  | ok d δ => exact fun v H1 H' R s p => hk d δ v H1 H' R s p (h.up s)
  | rz c δ => exact h
  | bad => exact h
/-- a test ahead -/
theorem PoT.bind {k : Bool → En → RE} {Q' : Bool → Hp → Prop} (h : PoE K W G σ H0 (bindT r k) Q)
    (hk : ∀ b δ H1 H', Rl K G δ σ H1 H' → Same H0 H1 → PoE K W G σ H1 (k b δ) Q → Q' b H') : PoT K W G σ H0 r Q' := by
  cases r with
  | ok d δ =>
    cases d with
    | bl b => exact ⟨b, rfl, fun H1 H' R s => hk b δ H1 H' R s (PoE.up h s)⟩
    | non => exact absurd h (fun z => z)
    | int i => exact absurd h (fun z => z)
    | str i => exact absurd h (fun z => z)
    | tup i => exact absurd h (fun z => z)
    | lst i => exact absurd h (fun z => z)
    | dic i j => exact absurd h (fun z => z)
    | exc i => exact absurd h (fun z => z)
  | rz c δ => exact h
  | bad => exact h
theorem PoT.bindQ {k : Bool → En → RE} {Q Q' : Bool → Hp → Prop} (h : PoT K W G σ H0 (bindT r k) Q)
    (hk : ∀ b δ H1 H', Rl K G δ σ H1 H' → Same H0 H1 → PoT K W G σ H1 (k b δ) Q → Q' b H') : PoT K W G σ H0 r Q' := by
  cases r with
  | ok d δ =>
    cases d with
    | bl b => exact ⟨b, rfl, fun H1 H' R s => hk b δ H1 H' R s (PoT.up h s)⟩
    | non => exact absurd h (fun z => z)
    | int i => exact absurd h (fun z => z)
    | str i => exact absurd h (fun z => z)
    | tup i => exact absurd h (fun z => z)
    | lst i => exact absurd h (fun z => z)
    | dic i j => exact absurd h (fun z => z)
    | exc i => exact absurd h (fun z => z)
  | rz c δ => exact h
  | bad => exact h
theorem PoT.toE {Q : Bool → Hp → Prop} (h : PoT K W G σ H0 r Q) : PoE K W G σ H0 r (fun v H' => ∃ b, v = .bl b ∧ Q b H') := by
  cases r with
  | ok d δ =>
    obtain ⟨b, rfl, q⟩ := h
    exact fun v H1 H' R s p => by
      cases p
      exact ⟨b, rfl, q H1 H' R s⟩
  | rz c δ => exact h
  | bad => exact h
theorem PoE.val {d : D} {δ : En} {v : V} {H : Hp} (h : PoE K W G σ H0 (.ok d δ) Q) (R : Rl K G δ σ H0 H) (p : Rep K H0 v d) : Q v H := h v H0 H R (Same.refl _) p
theorem PoE.new {d : D} {δ : En} {v : V} {H H1 H' : Hp} (h : PoE K W G σ H0 (.ok d δ) Q) (R : Rl K G δ σ H0 H) (g : Gr H0 H H1 H') (p : Rep K H1 v d) : Q v H' := h v H1 H' (R.grow g) g.h0 p
end

/-! ### operations by values -/
def rM (K : PySem.W.Frag) (g : D → D → Option D) : R2 := fun x y H Q => ∃ H0 d e z, Same H0 H ∧ Rep K H0 x d ∧ Rep K H0 y e ∧ g d e = some z ∧ ∀ v H1 H', Gr H0 H H1 H' → Rep K H1 v z → Q v H'
def rMu (K : PySem.W.Frag) (g : D → Option D) : V → Hp → VK → Prop := fun x H Q => ∃ H0 d z, Same H0 H ∧ Rep K H0 x d ∧ g d = some z ∧ ∀ v H1 H', Gr H0 H H1 H' → Rep K H1 v z → Q v H'
def rMl (K : PySem.W.Frag) (g : List D → Option D) : List V → Hp → VK → Prop := fun xs H Q => ∃ H0 ds z, Same H0 H ∧ Reps K H0 xs ds ∧ g ds = some z ∧ ∀ v H1 H', Gr H0 H H1 H' → Rep K H1 v z → Q v H'
theorem OpR_imp {X : Cx} {f : Value → Value → Sem Value} {r r' : R2} (h : OpR X f r) (i : ∀ x y H Q, r' x y H Q → r x y H Q) : OpR X f r' := fun pins s σ H x y v u Q I rx ry q => h pins s σ H x y v u Q I rx ry (i _ _ _ _ q)
theorem OpR_or {X : Cx} {f : Value → Value → Sem Value} {r r' : R2} (h : OpR X f r) (h' : OpR X f r') : OpR X f (fun x y H Q => r x y H Q ∨ r' x y H Q) := fun pins s σ H x y v u Q I rx ry q => q.elim (h pins s σ H x y v u Q I rx ry) (h' pins s σ H x y v u Q I rx ry)
theorem UnR_imp {X : Cx} {f : Value → Sem Value} {r r' : V → Hp → VK → Prop} (h : UnR X f r) (i : ∀ x H Q, r' x H Q → r x H Q) : UnR X f r' := fun pins s σ H x v Q I rx q => h pins s σ H x v Q I rx (i _ _ _ q)
theorem CallR_imp {X : Cx} {f : Value} {r r' : List V → Hp → VK → Prop} (h : CallR X f r) (i : ∀ x H Q, r' x H Q → r x H Q) : CallR X f r' := fun pins s σ H x v Q I rx q => h pins s σ H x v Q I rx (i _ _ _ q)
theorem CallR_or {X : Cx} {f : Value} {r r' : List V → Hp → VK → Prop} (h : CallR X f r) (h' : CallR X f r') : CallR X f (fun x H Q => r x H Q ∨ r' x H Q) := fun pins s σ H x v Q I rx q => q.elim (h pins s σ H x v Q I rx) (h' pins s σ H x v Q I rx)

section
variable {X : Cx}
theorem op_mulM : OpR X (binaryOp .Mult) (rI (fun i j => mulOk i j = true) fun i j => .int (i * j)) := opI fun i j _ _ _ _ _ hc q => mul_int q (by
  unfold mulOk at hc
  rw [decide_eq_true_eq] at hc
  have b : ∀ x : Int, Builtin.Int.intBits x ≤ x.natAbs.log2 + 1 := fun x => by
    unfold Builtin.Int.intBits
    split <;> omega
  have h1 := b i
  have h2 := b j
  have e : bitsLine = 134217728 := by decide
  unfold IntMulOk
  intro z
  rw [Bool.and_eq_true] at z
  have z2 := z.2
  unfold Builtin.Int.intTooBig at z2
  have z3 := of_decide_eq_true z2
  rw [e] at z3
  omega)
theorem op_fdivM : OpR X (binaryOp .FloorDiv) (rI (fun _ j => divOk j = true) fun i j => .int (i.fdiv j)) := opI fun i j _ _ _ _ _ hc q => by
  unfold divOk at hc
  rw [Bool.and_eq_true, decide_eq_true_eq, decide_eq_true_eq] at hc
  exact floordiv_int hc.1 q (.inl (PyProof.noPylong_of_log2 hc.2))
theorem op_powM : OpR X (binaryOp .Pow) (rI (fun i j => powOk i j = true) fun i j => .int (i ^ j.toNat)) := OpR_imp op_pow fun x y H Q ⟨i, j, ex, ey, c, q⟩ => ⟨i, j, ex, ey, by
  have c : powOk i j = true := c
  unfold powOk at c
  rw [Bool.and_eq_true, Bool.and_eq_true, decide_eq_true_eq, decide_eq_true_eq, decide_eq_true_eq] at c
  exact ⟨c.1.1, c.1.2, c.2⟩, q⟩
theorem opM_int {f : Value → Value → Sem Value} {C : Int → Int → Prop} {gi : Int → Int → V} {g : D → D → Option D} (h : OpR X f (rI C gi))
    (hg : ∀ d e z, g d e = some z → ∃ i j, d = .int i ∧ e = .int j ∧ C i j ∧ ∀ H, Rep X.K H (gi i j) z) : OpR X f (rM X.K g) := OpR_imp h fun x y H Q ⟨H0, d, e, z, s, rx, ry, hz, q⟩ => by
  obtain ⟨i, j, rfl, rfl, c, r⟩ := hg d e z hz
  cases rx
  cases ry
  exact ⟨i, j, rfl, rfl, c, q _ H0 H (Gr.refl s) (r H0)⟩
theorem opM_int0 {f : Value → Value → Sem Value} {gi : Int → Int → V} {g : D → D → Option D} (h : OpR X f (rI0 gi))
    (hg : ∀ d e z, g d e = some z → ∃ i j, d = .int i ∧ e = .int j ∧ ∀ H, Rep X.K H (gi i j) z) : OpR X f (rM X.K g) := OpR_imp h fun x y H Q ⟨H0, d, e, z, s, rx, ry, hz, q⟩ => by
  obtain ⟨i, j, rfl, rfl, r⟩ := hg d e z hz
  cases rx
  cases ry
  exact ⟨i, j, rfl, rfl, q _ H0 H (Gr.refl s) (r H0)⟩
theorem addD_some {d e z : D} (h : addD d e = some z) : (∃ i j, d = .int i ∧ e = .int j ∧ z = .int (i + j)) ∨ catD d e = some z := by
  unfold addD at h
  split at h
  · cases h; exact .inl ⟨_, _, rfl, rfl, rfl⟩
  · exact .inr h
/-- list + list, whichever lists -/
def rCatL (K : PySem.W.Frag) : R2 := fun x y H Q => ∃ a b xs ys, x = .ref a ∧ y = .ref b ∧ SqL K H a xs ∧ SqL K H b ys ∧ xs.length + ys.length ≤ sizeLine ∧ ∀ p, H p = none → Q (.ref p) (upd H p (.lst (xs ++ ys)))
theorem op_catL : OpR X (binaryOp .Add) (rCatL X.K) := by
  intro pins s σ H x y v u Q I rx ry h
  obtain ⟨a, b, xs, ys, rfl, rfl, ha, hb, hz, q⟩ := h
  cases rx
  cases ry
  obtain ⟨its, r1, ⟨⟨cls, dd, data, sl⟩, n, ho, hc, hdn, hd⟩, _⟩ := I.list ha
  obtain ⟨its2, r2, ⟨⟨cls2, dd2, data2, sl2⟩, n2, ho2, hc2, hdn2, hd2⟩, _⟩ := I.list hb
  simp only at hc hd hc2 hd2
  subst hc hd hc2 hd2
  have e : its.toArray ++ its2.toArray = (its ++ its2).toArray := by simp
  have l1 := r1.length
  have l2 := r2.length
  refine concat_meets ⟨_, ho, rfl⟩ ⟨_, ho2, rfl⟩ noFill_list_add seq_list_add F.slot_list_add F.entry_list_add (F.args_list_add_2 _ _) (PyProof.Rows.list_addW a b its.toArray its2.toArray n n2 dd dd2 sl sl2 (by rw [List.size_toArray, List.size_toArray]; omega)) ⟨ho, ho2, ?_⟩
  rw [e]
  exact ⟨.ref _, _, I.lnew (t' := s.toks) (r1.append r2) (by rw [List.length_append]; omega), rfl, q _ I.fresh⟩
theorem op_catM : OpR X (binaryOp .Add) (rM X.K catD) := OpR_imp (OpR_or (OpR_or op_add_str op_catA) op_catL) fun x y H Q ⟨H0, d, e, z, s, rx, ry, hz, q⟩ => by
  have sz : ∀ {n : Nat}, n ≤ 1000000 → n ≤ sizeLine := fun h => Nat.le_trans h (by decide)
  unfold catD at hz
  split at hz
  · split at hz
    · rename_i c
      cases hz
      cases rx
      cases ry
      exact .inl (.inl ⟨_, _, rfl, rfl, sz c, q _ H0 H (Gr.refl s) (.str _)⟩)
    · cases hz
  · split at hz
    · rename_i c
      cases hz
      cases rx with
      | @tup a1 xs1 ds1 h1 r1 =>
        cases ry with
        | @tup a2 xs2 ds2 h2 r2 =>
          refine .inl (.inr ⟨_, _, _, _, rfl, rfl, Same.seqT s h1, Same.seqT s h2, by rw [r1.length, r2.length]; exact sz c, fun z => ?_, fun _ z => ?_, fun _ _ p hp => ?_⟩)
          · subst z; cases r1; exact q _ H0 H (Gr.refl s) (.tup h2 r2)
          · subst z; cases r2; exact q _ H0 H (Gr.refl s) (by rw [List.append_nil]; exact .tup h1 r1)
          · have g := Gr.new (o := .tup (xs1 ++ xs2)) s hp
            exact q _ _ _ g (.tup (.inl (.inl upd_same)) ((r1.append r2).mono g.h0))
    · cases hz
  · split at hz
    · rename_i c
      cases hz
      cases rx with
      | @lst a1 xs1 ds1 h1 r1 =>
        cases ry with
        | @lst a2 xs2 ds2 h2 r2 =>
          refine .inr ⟨_, _, _, _, rfl, rfl, s.seq h1, s.seq h2, by rw [r1.length, r2.length]; exact sz c, fun p hp => ?_⟩
          have g := Gr.new (o := .lst (xs1 ++ xs2)) s hp
          exact q _ _ _ g (.lst (.inl (.inl upd_same)) ((r1.append r2).mono g.h0))
    · cases hz
  · cases hz
theorem subD_some {d e z : D} (h : subD d e = some z) : ∃ i j, d = .int i ∧ e = .int j ∧ z = .int (i - j) := by
  unfold subD at h
  split at h
  · cases h; exact ⟨_, _, rfl, rfl, rfl⟩
  · cases h
theorem mulD_some {d e z : D} (h : mulD d e = some z) : (∃ i j, d = .int i ∧ e = .int j ∧ mulOk i j = true ∧ z = .int (i * j)) ∨ ∃ ds k, d = .tup ds ∧ e = .int k ∧ ds ≠ [] ∧ 2 ≤ k ∧ k ≤ 1000 ∧ ds.length ≤ 1000 ∧ z = .tup (List.replicate k.toNat ds).flatten := by
  unfold mulD at h
  split at h
  · split at h
    · rename_i c; cases h; exact .inl ⟨_, _, rfl, rfl, c, rfl⟩
    · cases h
  · split at h
    · rename_i c
      cases h
      rw [Bool.and_eq_true, Bool.and_eq_true, Bool.and_eq_true, decide_eq_true_eq, decide_eq_true_eq, decide_eq_true_eq] at c
      exact .inr ⟨_, _, rfl, rfl, fun e => by rw [e] at c; simp at c, c.1.1.2, c.1.2, c.2, rfl⟩
    · cases h
  · cases h
theorem Reps.repT {K : PySem.W.Frag} {H : Hp} {vs : List V} {ds : List D} (r : Reps K H vs ds) : ∀ n : Nat, Reps K H (List.replicate n vs).flatten (List.replicate n ds).flatten
  | 0 => .nil
  | n + 1 => by
    rw [List.replicate_succ, List.replicate_succ, List.flatten_cons, List.flatten_cons]
    exact r.append (Reps.repT r n)
theorem fdivD_some {d e z : D} (h : fdivD d e = some z) : ∃ i j, d = .int i ∧ e = .int j ∧ divOk j = true ∧ z = .int (i.fdiv j) := by
  unfold fdivD at h
  split at h
  · split at h
    · rename_i c; cases h; exact ⟨_, _, rfl, rfl, c, rfl⟩
    · cases h
  · cases h
theorem modD_some {d e z : D} (h : modD d e = some z) : ∃ i j, d = .int i ∧ e = .int j ∧ j ≠ 0 ∧ z = .int (i.fmod j) := by
  unfold modD at h
  split at h
  · split at h
    · cases h
    · rename_i c; cases h; exact ⟨_, _, rfl, rfl, c, rfl⟩
  · cases h
theorem powD_some {d e z : D} (h : powD d e = some z) : ∃ i j, d = .int i ∧ e = .int j ∧ powOk i j = true ∧ z = .int (i ^ j.toNat) := by
  unfold powD at h
  split at h
  · split at h
    · rename_i c; cases h; exact ⟨_, _, rfl, rfl, c, rfl⟩
    · cases h
  · cases h
theorem shlD_some {d e z : D} (h : shlD d e = some z) : ∃ i j, d = .int i ∧ e = .int j ∧ CShl i j ∧ z = .int (i * 2 ^ j.toNat) := by
  unfold shlD at h
  split at h
  · split at h
    · rename_i i j c
      cases h
      unfold shlOk at c
      simp only [Bool.and_eq_true, decide_eq_true_eq] at c
      exact ⟨_, _, rfl, rfl, ⟨c.1, c.2⟩, rfl⟩
    · cases h
  · cases h
theorem opB (o : BOp) : OpR X (binaryOp o.op) (rM X.K o.fn) := by
  cases o with
  | add =>
    exact OpR_imp (OpR_or op_add op_catM) fun x y H Q ⟨H0, d, e, z, s, rx, ry, hz, q⟩ => by
      rcases addD_some hz with ⟨i, j, rfl, rfl, rfl⟩ | h
      · cases rx
        cases ry
        exact .inl ⟨i, j, rfl, rfl, q _ H0 H (Gr.refl s) (.int _)⟩
      · exact .inr ⟨H0, d, e, z, s, rx, ry, h, q⟩
  | sub => exact opM_int0 op_sub fun d e z h => by obtain ⟨i, j, rfl, rfl, rfl⟩ := subD_some h; exact ⟨i, j, rfl, rfl, fun _ => .int _⟩
  | mul =>
    exact OpR_imp (OpR_or op_mulM op_repT) fun x y H Q ⟨H0, d, e, z, s, rx, ry, hz, q⟩ => by
      rcases mulD_some hz with ⟨i, j, rfl, rfl, c, rfl⟩ | ⟨ds, k, rfl, rfl, n0, k0, k1, l, rfl⟩
      · cases rx
        cases ry
        exact .inl ⟨i, j, rfl, rfl, c, q _ H0 H (Gr.refl s) (.int _)⟩
      · cases ry
        cases rx with
        | @tup a1 xs1 ds1 h1 r1 =>
          refine .inr ⟨_, _, _, rfl, rfl, Same.seqT s h1, fun z => ?_, k0, k1, by rw [r1.length]; exact l, fun p hp => ?_⟩
          · subst z; cases r1; exact n0 rfl
          · have g := Gr.new (o := .tup (List.replicate k.toNat xs1).flatten) s hp
            exact q _ _ _ g (.tup (.inl (.inl upd_same)) ((r1.repT k.toNat).mono g.h0))
  | fdiv => exact opM_int op_fdivM fun d e z h => by obtain ⟨i, j, rfl, rfl, c, rfl⟩ := fdivD_some h; exact ⟨i, j, rfl, rfl, c, fun _ => .int _⟩
  | mod => exact opM_int op_modN fun d e z h => by obtain ⟨i, j, rfl, rfl, c, rfl⟩ := modD_some h; exact ⟨i, j, rfl, rfl, c, fun _ => .int _⟩
  | pow => exact opM_int op_powM fun d e z h => by obtain ⟨i, j, rfl, rfl, c, rfl⟩ := powD_some h; exact ⟨i, j, rfl, rfl, c, fun _ => .int _⟩
  | shl => exact opM_int op_shlW fun d e z h => by obtain ⟨i, j, rfl, rfl, c, rfl⟩ := shlD_some h; exact ⟨i, j, rfl, rfl, c, fun _ => .int _⟩

/-! ### comparisons -/
mutual
theorem Rep.dp {K : PySem.W.Frag} {H : Hp} : ∀ {v : V} {d : D}, Rep K H v d → (toPy d).canLay0 = true → Dp K H v (toPy d)
  | _, _, .non, _ => by unfold toPy; exact .non
  | _, _, .bl b, _ => by unfold toPy; exact .bl b
  | _, _, .int i, _ => by unfold toPy; exact .int i
  | _, _, .str x, _ => by unfold toPy; exact .str x
  | _, _, .tup h r, c => by
    unfold toPy at c ⊢
    unfold PyData.canLay0 at c
    exact .tup h (Reps.dp r c)
  | _, _, .lst h r, c => by
    unfold toPy at c ⊢
    unfold PyData.canLay0 at c
    exact .lst h (Reps.dp r c)
  | _, _, .dic _ _ _ _, c => by
    unfold toPy at c
    cases c
  | _, _, .exc _ _, c => by
    unfold toPy at c
    cases c
theorem Reps.dp {K : PySem.W.Frag} {H : Hp} : ∀ {v : List V} {d : List D}, Reps K H v d → PyData.canLayAll0 (toPys d) = true → DpAll K H v (toPys d)
  | _, _, .nil, _ => by unfold toPys; exact .nil
  | _, _, .cons h r, c => by
    unfold toPys at c ⊢
    unfold PyData.canLayAll0 at c
    rw [Bool.and_eq_true] at c
    exact .cons (Rep.dp h c.1) (Reps.dp r c.2)
end
mutual
theorem Dp.up {K : PySem.W.Frag} {H H' : Hp} (e : Same H H') : ∀ {v : V} {d : PyData}, Dp K H v d → Dp K H' v d
  | _, _, .non => .non
  | _, _, .bl b => .bl b
  | _, _, .int i => .int i
  | _, _, .str x => .str x
  | _, _, .tup h r => .tup (Same.seqT e h) (DpAll.up e r)
  | _, _, .lst h r => .lst (e.seq h) (DpAll.up e r)
theorem DpAll.up {K : PySem.W.Frag} {H H' : Hp} (e : Same H H') : ∀ {v : List V} {d : List PyData}, DpAll K H v d → DpAll K H' v d
  | _, _, .nil => .nil
  | _, _, .cons h r => .cons (Dp.up e h) (DpAll.up e r)
end
theorem eqD_some {d e : D} {b : Bool} (h : eqD d e = some b) : SeqAt.shaped (toPy d) = true ∧ SeqAt.shaped (toPy e) = true ∧ b = PyData.eqv (toPy d) (toPy e) := by
  unfold eqD at h
  split at h
  · rename_i c
    rw [Bool.and_eq_true] at c
    exact ⟨c.1, c.2, (Option.some.inj h).symm⟩
  · cases h
theorem eqX_or (d e : D) : eqX d e = eqD d e ∨ ∃ ks ds b, d = .dic ks ds ∧ e = .str b := by
  cases d <;> first | exact .inl rfl | (cases e <;> first | exact .inl rfl | exact .inr ⟨_, _, _, rfl, rfl⟩)
theorem eqX_of {d e : D} {z : Bool} (h : eqD d e = some z) : eqX d e = some z := by
  rcases eqX_or d e with e1 | ⟨ks, ds, b, rfl, rfl⟩
  · rw [e1, h]
  · exfalso
    have := eqD_some h
    have k := this.1
    revert k
    unfold toPy
    decide
theorem op_eqM (hu : X.A.units + 64 < cLine) : OpR X (compareOp .Eq) (rM X.K (COp.fn .eq)) := OpR_imp (OpR_or (op_eqD hu) (ZV.op_eqDS (by omega))) fun x y H Q ⟨H0, d, e, z, s, rx, ry, hz, q⟩ => by
  have hz : (eqX d e).map D.bl = some z := hz
  rcases eqX_or d e with e1 | ⟨ks, ds, b, rfl, rfl⟩
  case inr =>
    cases hz
    cases rx with
    | dic h1 h2 h3 h4 =>
      cases ry
      exact .inr ⟨_, _, _, rfl, rfl, s _ _ h1, q _ H0 H (Gr.refl s) (.bl _)⟩
  rw [e1] at hz
  refine .inl ?_
  cases hb : eqD d e with
  | none => rw [hb] at hz; cases hz
  | some b =>
    rw [hb] at hz
    cases hz
    obtain ⟨s1, s2, rfl⟩ := eqD_some hb
    exact ⟨toPy d, toPy e, Dp.up s (rx.dp (SeqAt.canLay_of_shaped s1)), Dp.up s (ry.dp (SeqAt.canLay_of_shaped s2)), s1, s2, q _ H0 H (Gr.refl s) (.bl _)⟩
theorem op_neM (hu : X.A.units + 64 < cLine) : OpR X (compareOp .NotEq) (rM X.K (COp.fn .ne)) := OpR_imp (op_neD hu) fun x y H Q ⟨H0, d, e, z, s, rx, ry, hz, q⟩ => by
  have hz : (eqD d e).map (fun b => D.bl (!b)) = some z := hz
  cases hb : eqD d e with
  | none => rw [hb] at hz; cases hz
  | some b =>
    rw [hb] at hz
    cases hz
    obtain ⟨s1, s2, rfl⟩ := eqD_some hb
    exact ⟨toPy d, toPy e, Dp.up s (rx.dp (SeqAt.canLay_of_shaped s1)), Dp.up s (ry.dp (SeqAt.canLay_of_shaped s2)), s1, s2, q _ H0 H (Gr.refl s) (.bl _)⟩
theorem cmpI_some {p : Int → Int → Bool} {d e z : D} (h : cmpI p d e = some z) : ∃ i j, d = .int i ∧ e = .int j ∧ z = .bl (p i j) := by
  unfold cmpI at h
  split at h
  · cases h; exact ⟨_, _, rfl, rfl, rfl⟩
  · cases h
theorem rep_flat {K : PySem.W.Frag} {H : Hp} {v : V} {d : D} (r : Rep K H v d) (f : flatD d = true) : v = vD d ∧ flatV v = true := by
  cases r <;> first | exact ⟨rfl, rfl⟩ | cases f
theorem reps_flat {K : PySem.W.Frag} {H : Hp} : ∀ {vs : List V} {ds : List D}, Reps K H vs ds → ds.all flatD = true → vs = ds.map vD ∧ vs.all flatV = true
  | _, _, .nil, _ => ⟨rfl, rfl⟩
  | _, _, .cons r t, f => by
    rw [List.all_cons, Bool.and_eq_true] at f
    obtain ⟨e1, e2⟩ := rep_flat r f.1
    obtain ⟨f1, f2⟩ := reps_flat t f.2
    rw [List.all_cons, e2, f2, List.map_cons, ← e1, ← f1]
    exact ⟨rfl, rfl⟩
theorem op_inM {n : Bool} {op : CmpOp} (h1 : OpR X (compareOp op) (if n then rNotInD X.K else rInD X.K)) (h2 : OpR X (compareOp op) (rIn X.K n))
    (h3 : OpR X (compareOp op) (fun x y H Q => ∃ i j, x = .str i ∧ y = .str j ∧ Q (.bl (if n then !(!(Builtin.Str.occurrences j i 0 j.length 1).isEmpty) else !(Builtin.Str.occurrences j i 0 j.length 1).isEmpty)) H)) :
    OpR X (compareOp op) (rM X.K fun d e => (inD d e).map fun b => D.bl (if n then !b else b)) := OpR_imp (OpR_or (OpR_or h1 h2) h3) fun x y H Q ⟨H0, d, e, z, s, rx, ry, hz, q⟩ => by
  replace hz : (inD d e).map (fun b => D.bl (if n then !b else b)) = some z := hz
  cases hb : inD d e with
  | none => rw [hb] at hz; cases hz
  | some b =>
    rw [hb] at hz
    cases hz
    unfold inD at hb
    split at hb
    · split at hb
      · rename_i c
        cases hb
        rw [Bool.and_eq_true] at c
        have l := ry.dp (by unfold toPy; exact SeqAt.canLay_of_shaped c.2)
        unfold toPy at l
        have m := rx.dp (SeqAt.canLay_of_shaped c.1)
        have q' := q _ H0 H (Gr.refl s) (.bl _)
        refine .inl (.inl ?_)
        cases n with
        | true => exact ⟨_, _, Dp.up s m, Dp.up s l, c.1, c.2, q'⟩
        | false => exact ⟨_, _, Dp.up s m, Dp.up s l, c.1, c.2, q'⟩
      · cases hb
    · split at hb
      · rename_i c
        cases hb
        rw [Bool.and_eq_true] at c
        cases ry with
        | tup hq rs =>
          obtain ⟨e1, e2⟩ := reps_flat rs c.2
          obtain ⟨f1, f2⟩ := rep_flat rx c.1
          refine .inl (.inr ⟨_, _, rfl, .inr (Same.seqT s hq), f2, e2, ?_⟩)
          rw [e1, f1]
          exact q _ H0 H (Gr.refl s) (.bl _)
      · cases hb
    · split at hb
      · cases hb
        cases rx
        cases ry
        exact .inr ⟨_, _, rfl, rfl, q _ H0 H (Gr.refl s) (.bl _)⟩
      · cases hb
    · cases hb
theorem opC (o : COp) (hu : X.A.units + 65 < cLine) : OpR X (compareOp o.op) (rM X.K o.fn) := by
  cases o with
  | eq => exact op_eqM (by omega)
  | ne => exact op_neM (by omega)
  | isin => exact op_inM (n := false) (op_inD hu) op_in_seq op_in_str
  | notin => exact op_inM (n := true) (op_notInD hu) op_notIn_seq op_notIn_str
  | lt => exact opM_int0 op_lt fun d e z h => by obtain ⟨i, j, rfl, rfl, rfl⟩ := cmpI_some h; exact ⟨i, j, rfl, rfl, fun _ => .bl _⟩
  | le => exact opM_int0 op_le fun d e z h => by obtain ⟨i, j, rfl, rfl, rfl⟩ := cmpI_some h; exact ⟨i, j, rfl, rfl, fun _ => .bl _⟩
  | gt => exact opM_int0 op_gt fun d e z h => by obtain ⟨i, j, rfl, rfl, rfl⟩ := cmpI_some h; exact ⟨i, j, rfl, rfl, fun _ => .bl _⟩
  | ge => exact opM_int0 op_ge fun d e z h => by obtain ⟨i, j, rfl, rfl, rfl⟩ := cmpI_some h; exact ⟨i, j, rfl, rfl, fun _ => .bl _⟩
end
end Z

namespace Z
open PySem PySem.Spec PyProof.Rows L2

section
variable {X : Cx} {W : Wi} {pos : Pos}
/-! ### simple expressions -/
theorem Rl.own_at {K : PySem.W.Frag} {G : Gh} {δ : En} {σ : L2.St} {H0 H : Hp} (R : Rl K G δ σ H0 H) {i : Nat} {o : O} (e : δ[i]? = some (.ow o)) :
    ∃ a : Addr, σ[i]? = some (some (V.ref a)) ∧ H0 a = none ∧ G.He a = none ∧ OwnAt K H0 H a o := by
  have hl : i < σ.length := by rw [← R.len]; exact (List.getElem?_eq_some_iff.mp e).1
  have q := R.sl i _ _ e (List.getElem?_eq_getElem hl)
  obtain ⟨a, h1, h2⟩ := q
  exact ⟨a, by rw [List.getElem?_eq_getElem hl, h1], h2⟩
theorem Rl.pin_at {K : PySem.W.Frag} {G : Gh} {δ : En} {σ : L2.St} {H0 H : Hp} (R : Rl K G δ σ H0 H) {i : Nat} {o : O} (e : δ[i]? = some (.pi o)) :
    ∃ a : Addr, σ[i]? = some (some (V.ref a)) ∧ H0 a = none ∧ G.He a = none ∧ OwnAt K H0 H a o := by
  have hl : i < σ.length := by rw [← R.len]; exact (List.getElem?_eq_some_iff.mp e).1
  have q := R.sl i _ _ e (List.getElem?_eq_getElem hl)
  obtain ⟨a, h1, h2, h3, h4, _⟩ := q
  exact ⟨a, by rw [List.getElem?_eq_getElem hl, h1], h2, h3, h4⟩
theorem Rl.va_at {K : PySem.W.Frag} {G : Gh} {δ : En} {σ : L2.St} {H0 H : Hp} (R : Rl K G δ σ H0 H) {i : Nat} {d : D} (e : δ[i]? = some (.va d)) :
    ∃ v, σ[i]? = some (some v) ∧ Rep K H0 v d := by
  have hl : i < σ.length := by rw [← R.len]; exact (List.getElem?_eq_some_iff.mp e).1
  obtain ⟨v, h1, h2⟩ := R.sl i _ _ e (List.getElem?_eq_getElem hl)
  exact ⟨v, by rw [List.getElem?_eq_getElem hl, h1], h2⟩
theorem me_var {i : Nat} {x : Str} (h : PE X (.Name x pos) (tVar i)) : PE X (.Name x pos) (tM X.K W (dVar i)) := PE_imp h fun σ H Q ⟨G, δ, H0, R, q⟩ => by
  unfold dVar at q
  cases e : δ[i]? with
  | none => rw [e] at q; exact q.elim
  | some s =>
    rw [e] at q
    cases s with
    | no => exact q.elim
    | pi o => exact q.elim
    | va d =>
      obtain ⟨v, h1, r⟩ := R.va_at e
      exact ⟨v, h1, q.val R r⟩
    | ow o =>
      obtain ⟨a, h1, n0, ne, w⟩ := R.own_at e
      refine ⟨.ref a, h1, ?_⟩
      cases o with
      | lst ds =>
        obtain ⟨vs, hv, rs⟩ := w
        have s1 : Same H0 (upd H0 a (.lst vs)) := fun b u e => by rw [upd_ne (ne_of_none e n0)]; exact e
        exact q (.ref a) _ H (R.freeze e h1 hv n0 ne (.lst (.inl (.inl upd_same)) (rs.mono s1))) s1 (.lst (.inl (.inl upd_same)) (rs.mono s1))
      | dic ks ds =>
        obtain ⟨vs, hv, l, rs⟩ := w
        have s1 : Same H0 (upd H0 a (.dK (ks.zip vs))) := fun b u e => by rw [upd_ne (ne_of_none e n0)]; exact e
        exact q (.ref a) _ H (R.freeze e h1 hv n0 ne (.dic upd_same rfl l (rs.mono s1))) s1 (.dic upd_same rfl l (rs.mono s1))
theorem me_cst {e : Expr} {v : V} {d : D} (h : PE X e (tC v)) (r : ∀ H, Rep X.K H v d) : PE X e (tM X.K W (dCst d)) := PE_imp h fun σ H Q ⟨G, δ, H0, R, q⟩ => PoE.val q R (r H0)
theorem ofO_some {K : PySem.W.Frag} {W : Wi} {G : Gh} {σ : L2.St} {H0 : Hp} {o : Option D} {δ : En} {Q : VK} (h : PoE K W G σ H0 (ofO o δ) Q) : ∃ z, o = some z ∧ PoE K W G σ H0 (.ok z δ) Q := by
  cases o with
  | none => exact h.elim
  | some z => exact ⟨z, rfl, h⟩
theorem me_bin {op : Operator} {g : D → D → Option D} {a b : Expr} {fa fb : Den} (ho : OpR X (binaryOp op) (rM X.K g)) (ha : PE X a (tM X.K W fa)) (hb : PE X b (tM X.K W fb)) : PE X (.BinOp a op b pos) (tM X.K W (dBin g fa fb)) :=
  PE_imp (pe_op ho ha hb) fun σ H Q ⟨G, δ, H0, R, h⟩ => ⟨G, δ, H0, R, PoE.bind h fun d δ1 v H01 H1 R1 s1 r1 h1 => ⟨G, δ1, H01, R1, PoE.bind h1 fun e δ2 w H02 H2 R2 s2 r2 h2 => by
    obtain ⟨z, hz, h3⟩ := ofO_some h2
    exact ⟨H02, d, e, z, R2.hs, r1.mono s2, r2, hz, fun u H03 H3 g r => h3.new R2 g r⟩⟩⟩
theorem me_cmp {op : CmpOp} {g : D → D → Option D} {a b : Expr} {fa fb : Den} (ho : OpR X (compareOp op) (rM X.K g)) (ha : PE X a (tM X.K W fa)) (hb : PE X b (tM X.K W fb)) (hm : behindInMarks op b = false) : PE X (.Compare a [op] [b] pos) (tM X.K W (dBin g fa fb)) :=
  PE_imp (pe_cmpR ho ha hb hm) fun σ H Q ⟨G, δ, H0, R, h⟩ => ⟨G, δ, H0, R, PoE.bind h fun d δ1 v H01 H1 R1 s1 r1 h1 => ⟨G, δ1, H01, R1, PoE.bind h1 fun e δ2 w H02 H2 R2 s2 r2 h2 => by
    obtain ⟨z, hz, h3⟩ := ofO_some h2
    exact ⟨H02, d, e, z, R2.hs, r1.mono s2, r2, hz, fun u H03 H3 g r => h3.new R2 g r⟩⟩⟩
theorem mt_cmp {op : CmpOp} {g : D → D → Option D} {a b : Expr} {fa fb : Den} (ho : OpR X (compareOp op) (rM X.K g)) (ha : PE X a (tM X.K W fa)) (hb : PE X b (tM X.K W fb)) (hm : behindInMarks op b = false) : PT X (.Compare a [op] [b] pos) (tT X.K W (dBin g fa fb)) :=
  PT_imp (pt_cmpR ho ha hb hm) fun σ H Q ⟨G, δ, H0, R, h⟩ => ⟨G, δ, H0, R, PoE.bind h.toE fun d δ1 v H01 H1 R1 s1 r1 h1 => ⟨G, δ1, H01, R1, PoE.bind h1 fun e δ2 w H02 H2 R2 s2 r2 h2 => by
    obtain ⟨z, hz, h3⟩ := ofO_some h2
    exact ⟨H02, d, e, z, R2.hs, r1.mono s2, r2, hz, fun u H03 H3 g r => h3.new R2 g r⟩⟩⟩
theorem me_ix {g : D → D → Option D} {a b : Expr} {fa fb : Den} (ho : IxR X (rM X.K g)) (ha : PE X a (tM X.K W fa)) (hb : PE X b (tM X.K W fb)) (hs : PlainIx b) : PE X (.Subscript a b pos) (tM X.K W (dBin g fa fb)) :=
  PE_imp (pe_ix ho ha hb hs) fun σ H Q ⟨G, δ, H0, R, h⟩ => ⟨G, δ, H0, R, PoE.bind h fun d δ1 v H01 H1 R1 s1 r1 h1 => ⟨G, δ1, H01, R1, PoE.bind h1 fun e δ2 w H02 H2 R2 s2 r2 h2 => by
    obtain ⟨z, hz, h3⟩ := ofO_some h2
    exact ⟨H02, d, e, z, R2.hs, r1.mono s2, r2, hz, fun u H03 H3 g r => h3.new R2 g r⟩⟩⟩
theorem me_un {op : UnaryOp} {g : D → Option D} {a : Expr} {fa : Den} (ho : UnR X (unaryOp op) (rMu X.K g)) (ha : PE X a (tM X.K W fa)) : PE X (.UnaryOp op a pos) (tM X.K W (dUn g fa)) :=
  PE_imp (pe_un ho ha) fun σ H Q ⟨G, δ, H0, R, h⟩ => ⟨G, δ, H0, R, PoE.bind h fun d δ1 v H01 H1 R1 s1 r1 h1 => by
    obtain ⟨z, hz, h3⟩ := ofO_some h1
    exact ⟨H01, d, z, R1.hs, r1, hz, fun u H03 H3 g r => h3.new R1 g r⟩⟩
def negD : D → Option D
  | .int i => some (.int (-i))
  | _ => none
theorem un_negM : UnR X (unaryOp .USub) (rMu X.K negD) := UnR_imp un_neg fun x H Q ⟨H0, d, z, s, r, hz, q⟩ => by
  unfold negD at hz
  split at hz
  · cases hz; cases r; exact ⟨_, rfl, q _ H0 H (Gr.refl s) (.int _)⟩
  · cases hz
theorem notD_some {d z : D} (h : notD d = some z) : ∃ b, d = .bl b ∧ z = .bl (!b) := by
  unfold notD at h
  split at h
  · cases h; exact ⟨_, rfl, rfl⟩
  · cases h
theorem me_not {a : Expr} {fa : Den} (ha : PE X a (tM X.K W fa)) : PE X (.UnaryOp .Not a pos) (tM X.K W (dUn notD fa)) :=
  PE_imp (pe_not ha) fun σ H Q ⟨G, δ, H0, R, h⟩ => ⟨G, δ, H0, R, PoE.bind h fun d δ1 v H01 H1 R1 s1 r1 h1 => by
    obtain ⟨z, hz, h3⟩ := ofO_some h1
    obtain ⟨b, rfl, rfl⟩ := notD_some hz
    cases r1
    exact ⟨b, rfl, h3.val R1 (.bl _)⟩⟩
theorem mt_not {a : Expr} {fa : Den} (ha : PT X a (tT X.K W fa)) : PT X (.UnaryOp .Not a pos) (tT X.K W (dUn notD fa)) :=
  PT_imp (pt_not ha) fun σ H Q ⟨G, δ, H0, R, h⟩ => ⟨G, δ, H0, R, by
    unfold dUn at h
    cases e : fa δ with
    | ok d δ1 =>
      rw [e] at h
      obtain ⟨z, hz, h⟩ : ∃ z, notD d = some z ∧ PoT X.K W G σ H0 (.ok z δ1) Q := by
        have h : PoT X.K W G σ H0 (ofO (notD d) δ1) Q := h
        cases hz : notD d with
        | none => rw [hz] at h; exact h.elim
        | some z => rw [hz] at h; exact ⟨z, rfl, h⟩
      obtain ⟨b, rfl, rfl⟩ := notD_some hz
      obtain ⟨b', e2, h⟩ := h
      cases e2
      exact ⟨b, rfl, h⟩
    | rz c δ1 => rw [e] at h; exact h
    | bad => rw [e] at h; exact h⟩
/-- a value as a test -/
theorem mt_val {a : Expr} {fa : Den} (ha : PE X a (tM X.K W fa)) (he : ∀ whole, isTrue a X.env whole = (do let v ← whole; standAt a.pos; holding [v] (truthy v))) : PT X a (tT X.K W fa) :=
  PT_imp (pt_val ha he) fun σ H Q ⟨G, δ, H0, R, h⟩ => ⟨G, δ, H0, R, h.toE⟩
/-- and, or: the list of the values -/
def dAnds : List Den → Den
  | [] => fun _ => .bad
  | [f] => f
  | f :: g :: fs => dAnd f (dAnds (g :: fs))
def dOrs : List Den → Den
  | [] => fun _ => .bad
  | [f] => f
  | f :: g :: fs => dOr f (dOrs (g :: fs))
theorem bindT_E {r : RE} {k : Bool → En → RE} {K : PySem.W.Frag} {G : Gh} {σ : L2.St} {H0 : Hp} {Q Q' : VK} (h : PoE K W G σ H0 (bindT r k) Q)
    (hk : ∀ b δ H1 H', Rl K G δ σ H1 H' → Same H0 H1 → PoE K W G σ H1 (k b δ) Q → Q' (.bl b) H') : PoE K W G σ H0 r Q' := by
  have h' := PoT.bind (Q' := fun b H' => Q' (.bl b) H') h hk
  cases r with
  | ok d δ =>
    obtain ⟨b, rfl, q⟩ := h'
    exact fun v H1 H' R s p => by
      cases p
      exact q H1 H' R s
  | rz c δ => exact h'
  | bad => exact h'
theorem ite_b {b : Bool} {α : Type} {x y : α} {P : α → Prop} (h : P (if b then x else y)) : if b = true then P x else P y := by
  cases b <;> exact h
theorem me_and {a b : Expr} {rest : List Expr} {fa fb : Den} (ha : PE X a (tM X.K W fa)) (hb : PE X (.BoolOp .And (b :: rest) pos) (tM X.K W fb)) : PE X (.BoolOp .And (a :: b :: rest) pos) (tM X.K W (dAnd fa fb)) :=
  PE_imp (pe_and ha hb) fun σ H Q ⟨G, δ, H0, R, h⟩ => ⟨G, δ, H0, R, bindT_E h fun c δ1 H1 H' R1 s1 h1 => ⟨c, rfl, by
    cases c with
    | true => exact ⟨G, δ1, H1, R1, h1⟩
    | false => exact PoE.val h1 R1 (.bl _)⟩⟩
theorem me_or {a b : Expr} {rest : List Expr} {fa fb : Den} (ha : PE X a (tM X.K W fa)) (hb : PE X (.BoolOp .Or (b :: rest) pos) (tM X.K W fb)) : PE X (.BoolOp .Or (a :: b :: rest) pos) (tM X.K W (dOr fa fb)) :=
  PE_imp (pe_or ha hb) fun σ H Q ⟨G, δ, H0, R, h⟩ => ⟨G, δ, H0, R, bindT_E h fun c δ1 H1 H' R1 s1 h1 => ⟨c, rfl, by
    cases c with
    | true => exact PoE.val h1 R1 (.bl _)
    | false => exact ⟨G, δ1, H1, R1, h1⟩⟩⟩
theorem PoT.okb {K : PySem.W.Frag} {G : Gh} {σ : L2.St} {H0 H : Hp} {b : Bool} {δ : En} {Q : Bool → Hp → Prop} (h : PoT K W G σ H0 (.ok (.bl b) δ) Q) (R : Rl K G δ σ H0 H) : Q b H := by
  obtain ⟨b', e, q⟩ := h
  cases e
  exact q H0 H R (Same.refl _)
theorem PW_imp {e : Expr} {t t' : TT} (h : PW X e t) (i : ∀ σ H Q, t' σ H Q → t σ H Q) : PW X e t' := ⟨fun w pins s σ H Q I q => h.run w pins s σ H Q I (i σ H Q q)⟩
theorem mw_and {a b : Expr} {rest : List Expr} {fa fb : Den} (ha : PT X a (tT X.K W fa)) (hb : PW X (.BoolOp .And (b :: rest) pos) (tT X.K W fb)) : PW X (.BoolOp .And (a :: b :: rest) pos) (tT X.K W (dAnd fa fb)) :=
  PW_imp (pw_and ha hb) fun σ H Q ⟨G, δ, H0, R, h⟩ => ⟨G, δ, H0, R, PoT.bindQ h fun c δ1 H1 H' R1 s1 h1 => by
    cases c with
    | true => exact ⟨G, δ1, H1, R1, h1⟩
    | false => exact PoT.okb h1 R1⟩
theorem mw_or {a b : Expr} {rest : List Expr} {fa fb : Den} (ha : PT X a (tT X.K W fa)) (hb : PW X (.BoolOp .Or (b :: rest) pos) (tT X.K W fb)) : PW X (.BoolOp .Or (a :: b :: rest) pos) (tT X.K W (dOr fa fb)) :=
  PW_imp (pw_or ha hb) fun σ H Q ⟨G, δ, H0, R, h⟩ => ⟨G, δ, H0, R, PoT.bindQ h fun c δ1 H1 H' R1 s1 h1 => by
    cases c with
    | true => exact PoT.okb h1 R1
    | false => exact ⟨G, δ1, H1, R1, h1⟩⟩
theorem me_ite {c a b : Expr} {fc fa fb : Den} (hc : PT X c (tT X.K W fc)) (ha : PE X a (tM X.K W fa)) (hb : PE X b (tM X.K W fb)) : PE X (.IfExp c a b pos) (tM X.K W (dIte fc fa fb)) :=
  PE_imp (pe_ifExp hc ha hb) fun σ H Q ⟨G, δ, H0, R, h⟩ => ⟨G, δ, H0, R, PoT.bind h fun c δ1 H1 H' R1 s1 h1 => by
    cases c with
    | true => exact ⟨G, δ1, H1, R1, h1⟩
    | false => exact ⟨G, δ1, H1, R1, h1⟩⟩
/-! ### arguments, displays, calls -/
theorem ma_nil : PA X [] (tA X.K W (dArgs [])) := PA_imp pa_nil fun σ H Q ⟨G, δ, H0, R, h⟩ => h [] H0 H R (Same.refl _) .nil
theorem ma_cons {e : Expr} {es : List Expr} {f : Den} {fs : List Den} (ha : PE X e (tM X.K W f)) (hr : PA X es (tA X.K W (dArgs fs))) (hs : starEach (e :: es) X.env = (false, eval e X.env) :: starEach es X.env) : PA X (e :: es) (tA X.K W (dArgs (f :: fs))) :=
  PA_imp (pa_cons ha hr hs) fun σ H Q ⟨G, δ, H0, R, h⟩ => ⟨G, δ, H0, R, PoE.consA h fun d δ1 v H1 H' R1 s1 r1 h1 => ⟨G, δ1, H1, R1, PoA.bindAA h1 fun ds δ2 vs H2 H'' R2 s2 r2 h2 =>
    h2 (v :: vs) H2 H'' R2 (Same.refl _) (.cons (r1.mono s2) r2)⟩⟩
theorem sz_le {n : Nat} (h : n ≤ 1000000) : n ≤ sizeLine := Nat.le_trans h (by decide)
theorem me_tup {es : List Expr} {k : Nat} {fs : List Den} (h : PA X es (tA X.K W (dArgs fs))) : PE X (.Tuple es k pos) (tM X.K W (dTup fs)) :=
  PE_imp (pe_tup h) fun σ H Q ⟨G, δ, H0, R, q⟩ => ⟨G, δ, H0, R, PoA.bind q fun ds δ1 vs H1 H' R1 s1 r1 h1 => by
    split at h1
    · rename_i c
      refine ⟨sz_le (by rw [r1.length]; exact c), fun p hp => ?_⟩
      have g := Gr.new (o := .tup vs) R1.hs hp
      exact PoE.new h1 R1 g (.tup (.inl (.inl upd_same)) (r1.mono g.h0))
    · exact h1.elim⟩
/-- a new list -/
inductive RF where
  | ok (o : O) (δ : En) | rz (c : Exc) (δ : En) | bad
abbrev FDen := En → RF
def PoF (K : PySem.W.Frag) (W : Wi) (G : Gh) (σ : L2.St) (H0 : Hp) (r : RF) (Q : VK) : Prop :=
  match r with
  | .ok o δ => ∀ a H0' H', Rl K G δ σ H0' H' → Same H0 H0' → H0' a = none → G.He a = none → OwnAt K H0' H' a o → (∀ (j : Nat) (s : Sl), δ[j]? = some s → isOwn s = true → σ[j]? ≠ some (some (V.ref a))) → Q (.ref a) H'
  | .rz c δ => ∀ cls dd H0' H', Rl K G δ σ H0' H' → Same H0 H0' → ExIs K W.ct c cls dd H' → W.w cls dd σ H'
  | .bad => False
def tF (K : PySem.W.Frag) (W : Wi) (f : FDen) : TE := fun σ H Q => ∃ G δ H0, Rl K G δ σ H0 H ∧ PoF K W G σ H0 (f δ) Q
def dFr (f : FDen) : Den := fun δ => match f δ with
  | .ok o δ => .ok (ownD o) δ
  | .rz c δ => .rz c δ
  | .bad => .bad
/-- what is new may be read -/
theorem Rl.take_in {K : PySem.W.Frag} {G : Gh} {δ : En} {σ : L2.St} {H0 H : Hp} {a : Addr} {u : HO} (R : Rl K G δ σ H0 H) (n0 : H0 a = none) (ne : G.He a = none) (hu : H a = some u)
    (nw : ∀ (j : Nat) (s : Sl), δ[j]? = some s → isOwn s = true → σ[j]? ≠ some (some (V.ref a))) : Rl K G δ σ (upd H0 a u) H := by
  have s1 : Same H0 (upd H0 a u) := fun b w e => by rw [upd_ne (ne_of_none e n0)]; exact e
  refine ⟨fun b w e => ?_, R.he, R.hf.trans s1, fun b e => ?_, R.len, fun j s x h1 h2 => ?_, R.dj, R.pn⟩
  · by_cases hb : b = a
    · subst hb; rw [upd_same] at e; cases e; exact hu
    · rw [upd_ne hb] at e; exact R.hs b w e
  · have hb : b ≠ a := fun z => e (by rw [z]; exact ne)
    rw [upd_ne hb]; exact R.hn b e
  · have q := R.sl j s x h1 h2
    have nea : ∀ c, isOwn s = true → x = some (.ref c) → c ≠ a := fun c ho hx z => by
      subst hx z
      exact nw j s h1 ho h2
    cases s with
    | no => trivial
    | va d => obtain ⟨v, e, r⟩ := q; exact ⟨v, e, r.mono s1⟩
    | ow o => obtain ⟨c, e, n, f, w⟩ := q; exact ⟨c, e, by rw [upd_ne (nea c rfl e)]; exact n, f, w.mono s1 rfl⟩
    | pi o => obtain ⟨c, e, n, f, w, p⟩ := q; exact ⟨c, e, by rw [upd_ne (nea c rfl e)]; exact n, f, w.mono s1 rfl, p⟩
/-- a new object of one's own, read from now on -/
theorem read_in {K : PySem.W.Frag} {W : Wi} {G : Gh} {δ : En} {σ : L2.St} {H0 H1 H' : Hp} {a : Addr} {o : O} {Q : VK} (q : PoE K W G σ H0 (.ok (ownD o) δ) Q) (R1 : Rl K G δ σ H1 H') (s1 : Same H0 H1) (n0 : H1 a = none) (ne : G.He a = none) (w : OwnAt K H1 H' a o)
    (nw : ∀ (j : Nat) (s : Sl), δ[j]? = some s → isOwn s = true → σ[j]? ≠ some (some (V.ref a))) : Q (.ref a) H' := by
  cases o with
  | lst ds =>
    obtain ⟨vs, hv, rs⟩ := w
    have s2 : Same H1 (upd H1 a (.lst vs)) := fun b u e => by rw [upd_ne (ne_of_none e n0)]; exact e
    exact q (.ref a) _ H' (R1.take_in n0 ne hv nw) (s1.trans s2) (.lst (.inl (.inl upd_same)) (rs.mono s2))
  | dic ks ds =>
    obtain ⟨vs, hv, l, rs⟩ := w
    have s2 : Same H1 (upd H1 a (.dK (ks.zip vs))) := fun b u e => by rw [upd_ne (ne_of_none e n0)]; exact e
    exact q (.ref a) _ H' (R1.take_in n0 ne hv nw) (s1.trans s2) (.dic upd_same rfl l (rs.mono s2))
theorem fr_read {K : PySem.W.Frag} {f : FDen} {σ : L2.St} {H : Hp} {Q : VK} (h : tM K W (dFr f) σ H Q) : tF K W f σ H Q := by
  obtain ⟨G, δ, H0, R, q⟩ := h
  refine ⟨G, δ, H0, R, ?_⟩
  unfold dFr at q
  cases e : f δ with
  | bad => rw [e] at q; exact q
  | rz c δ1 => rw [e] at q; exact q
  | ok o δ1 =>
    rw [e] at q
    intro a H1 H' R1 s1 n0 ne w nw
    cases o with
    | lst ds =>
      obtain ⟨vs, hv, rs⟩ := w
      have s2 : Same H1 (upd H1 a (.lst vs)) := fun b u e => by rw [upd_ne (ne_of_none e n0)]; exact e
      exact q (.ref a) _ H' (R1.take_in n0 ne hv nw) (s1.trans s2) (.lst (.inl (.inl upd_same)) (rs.mono s2))
    | dic ks ds =>
      obtain ⟨vs, hv, l, rs⟩ := w
      have s2 : Same H1 (upd H1 a (.dK (ks.zip vs))) := fun b u e => by rw [upd_ne (ne_of_none e n0)]; exact e
      exact q (.ref a) _ H' (R1.take_in n0 ne hv nw) (s1.trans s2) (.dic upd_same rfl l (rs.mono s2))
theorem me_fr {e : Expr} {f : FDen} (h : PE X e (tF X.K W f)) : PE X e (tM X.K W (dFr f)) := PE_imp h fun σ H Q q => fr_read q
theorem Rl.he_none {K : PySem.W.Frag} {G : Gh} {δ : En} {σ : L2.St} {H0 H : Hp} {a : Addr} (R : Rl K G δ σ H0 H) (n : H a = none) : G.He a = none := R.he.free n
theorem Rl.own_ne {K : PySem.W.Frag} {G : Gh} {δ : En} {σ : L2.St} {H0 H : Hp} {a : Addr} (R : Rl K G δ σ H0 H) (n : H a = none) (j : Nat) (s : Sl) (h : δ[j]? = some s) (o : isOwn s = true) : σ[j]? ≠ some (some (V.ref a)) := fun e => by
  have q := R.sl j s _ h e
  cases s with
  | no => cases o
  | va d => cases o
  | ow o => obtain ⟨c, e, _, _, w⟩ := q; cases e; exact w.some_ n
  | pi o => obtain ⟨c, e, _, _, w, _⟩ := q; cases e; exact w.some_ n
/-- a new object laid, not read yet -/
theorem Gr.lay {H0 H : Hp} {p : Addr} {o : HO} (s : Same H0 H) (n : H p = none) : Gr H0 H H0 (upd H p o) := by
  have n0 : H0 p = none := s.free n
  exact ⟨fun b u e => by rw [upd_ne (ne_of_none e n)]; exact e, Same.refl _, fun b u e => by rw [upd_ne (ne_of_none e n0)]; exact s b u e, fun _ _ => rfl⟩
theorem PoF.laid {K : PySem.W.Frag} {G : Gh} {δ : En} {σ : L2.St} {H0 H : Hp} {o : O} {p : Addr} {u : HO} {Q : VK} (h : PoF K W G σ H0 (.ok o δ) Q) (R : Rl K G δ σ H0 H) (n : H p = none) (w : OwnAt K H0 (upd H p u) p o) : Q (.ref p) (upd H p u) :=
  h p H0 _ (R.grow (Gr.lay R.hs n)) (Same.refl _) (R.hs.free n) (R.he_none n) w (R.own_ne n)
def bindAF (r : RA) (k : List D → En → RF) : RF :=
  match r with
  | .ok d δ => k d δ
  | .rz c δ => .rz c δ
  | .bad => .bad
def bindEF (r : RE) (k : D → En → RF) : RF :=
  match r with
  | .ok d δ => k d δ
  | .rz c δ => .rz c δ
  | .bad => .bad
theorem PoF.up {K : PySem.W.Frag} {G : Gh} {σ : L2.St} {H0 H0' : Hp} {r : RF} {Q : VK} (h : PoF K W G σ H0 r Q) (s : Same H0 H0') : PoF K W G σ H0' r Q := by
  cases r with
  | ok d δ => exact fun v H0'' H' R s' => h v H0'' H' R (s.trans s')
  | rz c δ => exact fun cls dd H0'' H' R s' => h cls dd H0'' H' R (s.trans s')
  | bad => exact h
theorem PoA.bindF {K : PySem.W.Frag} {G : Gh} {σ : L2.St} {H0 : Hp} {Q : VK} {r : RA} {Q' : List V → Hp → Prop} {k : List D → En → RF} (h : PoF K W G σ H0 (bindAF r k) Q)
    (hk : ∀ d δ v H1 H', Rl K G δ σ H1 H' → Same H0 H1 → Reps K H1 v d → PoF K W G σ H1 (k d δ) Q → Q' v H') : PoA K W G σ H0 r Q' := by
  cases r with
  | ok d δ => exact fun v H1 H' R s p => hk d δ v H1 H' R s p (h.up s)
  | rz c δ => exact h
  | bad => exact h
theorem PoE.bindF {K : PySem.W.Frag} {G : Gh} {σ : L2.St} {H0 : Hp} {Q : VK} {r : RE} {Q' : VK} {k : D → En → RF} (h : PoF K W G σ H0 (bindEF r k) Q)
    (hk : ∀ d δ v H1 H', Rl K G δ σ H1 H' → Same H0 H1 → Rep K H1 v d → PoF K W G σ H1 (k d δ) Q → Q' v H') : PoE K W G σ H0 r Q' := by
  cases r with
  | ok d δ => exact fun v H1 H' R s p => hk d δ v H1 H' R s p (h.up s)
  | rz c δ => exact h
  | bad => exact h
def fLst (fs : List Den) : FDen := fun δ => bindAF (dArgs fs δ) fun ds δ1 => if ds.length ≤ 1000000 then .ok (.lst ds) δ1 else .bad
theorem mf_lst {es : List Expr} {fs : List Den} (h : PA X es (tA X.K W (dArgs fs))) : PE X (.List es pos) (tF X.K W (fLst fs)) :=
  PE_imp (pe_lst h) fun σ H Q ⟨G, δ, H0, R, q⟩ => ⟨G, δ, H0, R, PoA.bindF q fun ds δ1 vs H1 H' R1 s1 r1 h1 => by
    split at h1
    · rename_i c
      exact ⟨sz_le (by rw [r1.length]; exact c), fun p hp => h1.laid R1 hp ⟨vs, upd_same, r1⟩⟩
    · exact h1.elim⟩
/-- f(e, ..), by what it gives of the values -/
theorem me_bi {id : String} {x : Str} {p : Pos} {e : Expr} {es : List Expr} {g : List D → Option D} {fs : List Den} (hc : CallR X (.builtin id) (rMl X.K g)) (hg : Gl X x) (hm : X.mg x = none) (hv : bootBuiltins x = some (.builtin id)) (ha : PA X (e :: es) (tA X.K W (dArgs fs))) (hn : x ≠ "__name__") (hdb : (x == ("__debug__" : Str)) = false)
    (he : starEach (e :: es) X.env = (false, eval e X.env) :: starEach es X.env) (hpl : (backTo pos (starEach es X.env)).any (·.1) = false) : PE X (.Call (.Name x p) (e :: es) [] pos) (tM X.K W (dBi g fs)) :=
  PE_imp (pe_callB hc hg hm hv ha hn hdb he hpl) fun σ H Q ⟨G, δ, H0, R, q⟩ => ⟨G, δ, H0, R, PoA.bind q fun ds δ1 vs H1 H' R1 s1 r1 h1 => by
    obtain ⟨z, hz, h3⟩ := ofO_some h1
    exact ⟨H1, ds, z, R1.hs, r1, hz, fun u H03 H3 g r => h3.new R1 g r⟩⟩
theorem me_biT {T : String} {x : Str} {p : Pos} {e : Expr} {es : List Expr} {g : List D → Option D} {fs : List Den} (hc : CallR X (.type T) (rMl X.K g)) (hg : Gl X x) (hm : X.mg x = none) (hv : bootBuiltins x = some (.type T)) (ha : PA X (e :: es) (tA X.K W (dArgs fs))) (hn : x ≠ "__name__") (hdb : (x == ("__debug__" : Str)) = false)
    (he : starEach (e :: es) X.env = (false, eval e X.env) :: starEach es X.env) (hpl : (backTo pos (starEach es X.env)).any (·.1) = false) : PE X (.Call (.Name x p) (e :: es) [] pos) (tM X.K W (dBi g fs)) :=
  PE_imp (pe_callTy hc hg hm hv ha hn hdb he hpl) fun σ H Q ⟨G, δ, H0, R, q⟩ => ⟨G, δ, H0, R, PoA.bind q fun ds δ1 vs H1 H' R1 s1 r1 h1 => by
    obtain ⟨z, hz, h3⟩ := ofO_some h1
    exact ⟨H1, ds, z, R1.hs, r1, hz, fun u H03 H3 g r => h3.new R1 g r⟩⟩
/-- what a def promises: it gives what g says of its arguments -/
def spD (K : PySem.W.Frag) (ct : Nat → Addr) (n : Nat) (g : List D → RD) : Sp := fun vs H Q E => ∃ H0 ds, Same H0 H ∧ Reps K H0 vs ds ∧ ds.length = n ∧
  match g ds with
  | .ok d => ∀ v H1 H', Gr H0 H H1 H' → Rep K H1 v d → Q v H'
  | .ow o => ∀ a H1 H', Gr H0 H H1 H' → H a = none → H1 a = none → OwnAt K H1 H' a o → Q (.ref a) H'
  | .rz c => ∀ cls dd H1 H', Gr H0 H H1 H' → ExIs K ct c cls dd H' → E cls dd H'
  | _ => False
theorem me_call {CX : CXT} {k : Nat} {f : Addr} {fd : FuncData} {ps : List Str} {n : Nat} {ct : Nat → Addr} {x : Str} {p : Pos} {e : Expr} {es : List Expr} {g : List D → RD} {fs : List Den}
    (F : FnOk X.prog X.w X.K X.mg X.base CX k f fd ps (spD X.K ct n g)) (hr : Room k X.A) (hg : Gl X x) (hm : X.mg x = some (.ref f)) (hk : PySem.W.keepIn X.K (.ref f) = true) (hb : Binds X.K fd ps []) (hx : ∀ σ, PassesAt CX X σ (WE W.w σ)) (hdb : (x == ("__debug__" : Str)) = false)
    (ha : PA X (e :: es) (tA X.K W (dArgs fs))) (hl : fs.length = n) (hct : W.ct = ct)
    (he : starEach (e :: es) X.env = (false, eval e X.env) :: starEach es X.env) (hpl : (backTo pos (starEach es X.env)).any (·.1) = false) : PE X (.Call (.Name x p) (e :: es) [] pos) (tM X.K W (dCall g fs)) := by
  have lenA : ∀ (fs : List Den) (δ : En) (ds : List D) (δ1 : En), dArgs fs δ = .ok ds δ1 → ds.length = fs.length := by
    intro fs
    induction fs with
    | nil => intro δ ds δ1 h; cases h; rfl
    | cons f fs ih =>
      intro δ ds δ1 h
      unfold dArgs at h
      cases e : f δ with
      | ok d δ2 =>
        rw [e] at h
        unfold consA at h
        cases e2 : dArgs fs δ2 with
        | ok ds2 δ3 =>
          have h : bindAA (dArgs fs δ2) (fun ds δ2 => RA.ok (d :: ds) δ2) = .ok ds δ1 := h
          rw [e2] at h
          have h : RA.ok (d :: ds2) δ3 = .ok ds δ1 := h
          cases h
          rw [List.length_cons, List.length_cons, ih _ _ _ e2]
        | rz c δ3 =>
          have h : bindAA (dArgs fs δ2) (fun ds δ2 => RA.ok (d :: ds) δ2) = .ok ds δ1 := h
          rw [e2] at h; cases h
        | bad =>
          have h : bindAA (dArgs fs δ2) (fun ds δ2 => RA.ok (d :: ds) δ2) = .ok ds δ1 := h
          rw [e2] at h; cases h
      | rz c δ2 => rw [e] at h; cases h
      | bad => rw [e] at h; cases h
  refine PE_imp (pe_callS F hr hg hm hk hb hx ha hdb he hpl) fun σ H Q ⟨G, δ, H0, R, q⟩ => ⟨G, δ, H0, R, ?_⟩
  unfold dCall at q
  cases eA : dArgs fs δ with
  | bad => rw [eA] at q; exact q
  | rz c δ1 => rw [eA] at q; exact q
  | ok ds δ1 =>
    rw [eA] at q
    intro vs H1 H' R1 s1 r1
    refine ⟨H1, ds, R1.hs, r1, by rw [lenA _ _ _ _ eA, hl], ?_⟩
    have q : PoE X.K W G σ H0 (ofD (g ds) δ1) Q := q
    cases hg : g ds with
    | ok d => rw [hg] at q; exact fun v H2 H'' gr r => q v H2 H'' (R1.grow gr) (s1.trans gr.h0) r
    | ow o =>
      rw [hg] at q
      exact fun a H2 H'' gr n n0 ow => read_in q (R1.grow gr) (s1.trans gr.h0) n0 (R1.he_none n) ow (R1.own_ne n)
    | okp d o => rw [hg] at q; exact q.elim
    | owp d o => rw [hg] at q; exact q.elim
    | rz c => rw [hg] at q; exact fun cls dd H2 H'' gr x => q cls dd H2 H'' (R1.grow gr) (s1.trans gr.h0) (by rw [hct]; exact x)
    | bad => rw [hg] at q; exact q.elim
end
end Z

namespace Z
open PySem PySem.Spec PyProof.Rows L2

/-! ### built-in functions on data -/
def absL : List D → Option D
  | [.int i] => some (.int (if i < 0 then -i else i))
  | _ => none
def intsOf : List D → Option (List Int)
  | [] => some []
  | .int i :: ds => (intsOf ds).map (i :: ·)
  | _ => none
/-- the greatest, the least of some whole numbers -/
def topI : List Int → Option Int
  | [] => none
  | x :: xs => match topI xs with
    | none => some x
    | some m => some (if m > x then m else x)
def lowI : List Int → Option Int
  | [] => none
  | x :: xs => match lowI xs with
    | none => some x
    | some m => some (if m < x then m else x)
theorem topI_ok : ∀ {ns : List Int} {m : Int}, topI ns = some m → m ∈ ns ∧ ∀ y ∈ ns, y ≤ m
  | [], m, h => by cases h
  | x :: xs, m, h => by
    unfold topI at h
    cases e : topI xs with
    | none =>
      rw [e] at h
      cases h
      cases xs with
      | nil => exact ⟨List.mem_cons_self, fun y hy => by rw [List.mem_singleton.mp hy]; exact Int.le_refl _⟩
      | cons a as => unfold topI at e; split at e <;> cases e
    | some k =>
      rw [e] at h
      obtain ⟨h1, h2⟩ := topI_ok e
      have h : (if k > x then k else x) = m := Option.some.inj h
      by_cases c : k > x
      · rw [if_pos c] at h
        subst h
        exact ⟨List.mem_cons_of_mem _ h1, fun y hy => (List.mem_cons.mp hy).elim (fun e => by omega) (h2 y)⟩
      · rw [if_neg c] at h
        subst h
        exact ⟨List.mem_cons_self, fun y hy => (List.mem_cons.mp hy).elim (fun e => by omega) fun hy => by have := h2 y hy; omega⟩
theorem lowI_ok : ∀ {ns : List Int} {m : Int}, lowI ns = some m → m ∈ ns ∧ ∀ y ∈ ns, m ≤ y
  | [], m, h => by cases h
  | x :: xs, m, h => by
    unfold lowI at h
    cases e : lowI xs with
    | none =>
      rw [e] at h
      cases h
      cases xs with
      | nil => exact ⟨List.mem_cons_self, fun y hy => by rw [List.mem_singleton.mp hy]; exact Int.le_refl _⟩
      | cons a as => unfold lowI at e; split at e <;> cases e
    | some k =>
      rw [e] at h
      obtain ⟨h1, h2⟩ := lowI_ok e
      have h : (if k < x then k else x) = m := Option.some.inj h
      by_cases c : k < x
      · rw [if_pos c] at h
        subst h
        exact ⟨List.mem_cons_of_mem _ h1, fun y hy => (List.mem_cons.mp hy).elim (fun e => by omega) (h2 y)⟩
      · rw [if_neg c] at h
        subst h
        exact ⟨List.mem_cons_self, fun y hy => (List.mem_cons.mp hy).elim (fun e => by omega) fun hy => by have := h2 y hy; omega⟩
theorem topI_some : ∀ {ns : List Int}, ns ≠ [] → ∃ m, topI ns = some m
  | [], h => absurd rfl h
  | x :: xs, _ => by
    unfold topI
    split
    · exact ⟨_, rfl⟩
    · exact ⟨_, rfl⟩
theorem lowI_some : ∀ {ns : List Int}, ns ≠ [] → ∃ m, lowI ns = some m
  | [], h => absurd rfl h
  | x :: xs, _ => by
    unfold lowI
    split
    · exact ⟨_, rfl⟩
    · exact ⟨_, rfl⟩
theorem intsOf_map : ∀ ns : List Int, intsOf (ns.map D.int) = some ns
  | [] => rfl
  | x :: xs => by rw [List.map_cons, intsOf, intsOf_map xs]; rfl
def maxL : List D → Option D
  | [.int i, .int j] => some (.int (if j > i then j else i))
  | [.lst ds] => ((intsOf ds).bind topI).map .int
  | _ => none
def minL : List D → Option D
  | [.int i, .int j] => some (.int (if j < i then j else i))
  | [.lst ds] => ((intsOf ds).bind lowI).map .int
  | _ => none
theorem max_ex {ns : List Int} (h : ns ≠ []) : ∃ m, maxL [.lst (ns.map D.int)] = some (.int m) ∧ m ∈ ns ∧ ∀ y ∈ ns, y ≤ m := by
  obtain ⟨m, e⟩ := topI_some h
  refine ⟨m, ?_, topI_ok e⟩
  show ((intsOf (ns.map D.int)).bind topI).map D.int = _
  rw [intsOf_map]
  show (topI ns).map D.int = _
  rw [e]
  rfl
theorem min_ex {ns : List Int} (h : ns ≠ []) : ∃ m, minL [.lst (ns.map D.int)] = some (.int m) ∧ m ∈ ns ∧ ∀ y ∈ ns, m ≤ y := by
  obtain ⟨m, e⟩ := lowI_some h
  refine ⟨m, ?_, lowI_ok e⟩
  show ((intsOf (ns.map D.int)).bind lowI).map D.int = _
  rw [intsOf_map]
  show (lowI ns).map D.int = _
  rw [e]
  rfl
def lenL : List D → Option D
  | [.tup ds] => some (.int ds.length)
  | [.lst ds] => some (.int ds.length)
  | [.str x] => if x.length ≤ sizeLine then some (.int x.length) else none
  | _ => none
def tupL : List D → Option D
  | [.lst ds] => some (.tup ds)
  | [.tup ds] => some (.tup ds)
  | _ => none
def intL : List D → Option D
  | [.int i] => some (.int i)
  | [.bl k] => some (.int (if k then 1 else 0))
  | _ => none
def blsOf : List D → Option (List Bool)
  | [] => some []
  | .bl i :: ds => (blsOf ds).map (i :: ·)
  | _ => none
def sumL : List D → Option D
  | [.lst ds] => (intsOf ds).map fun ns => .int ns.sum
  | _ => none
def allL : List D → Option D
  | [.lst ds] => (blsOf ds).map fun ns => .bl (ns.all id)
  | _ => none
def anyL : List D → Option D
  | [.lst ds] => (blsOf ds).map fun ns => .bl (ns.any id)
  | _ => none
def isExc : D → Bool
  | .exc _ => true
  | _ => false
def isiD (ty : String) (d : D) : Option D := if isExc d then none else (kitB (tyD d) ty).map .bl
inductive Bi where
  | abs | max | min | len | tup | int | sum | all | any
def Bi.fn : Bi → List D → Option D
  | .abs => absL
  | .max => maxL
  | .min => minL
  | .len => lenL
  | .tup => tupL
  | .int => intL
  | .sum => sumL
  | .all => allL
  | .any => anyL
def Bi.name : Bi → Str
  | .abs => "abs"
  | .max => "max"
  | .min => "min"
  | .len => "len"
  | .tup => "tuple"
  | .int => "int"
  | .sum => "sum"
  | .all => "all"
  | .any => "any"
def Bi.val : Bi → Value
  | .abs => .builtin "abs"
  | .max => .builtin "max"
  | .min => .builtin "min"
  | .len => .builtin "len"
  | .tup => .type "tuple"
  | .int => .type "int"
  | .sum => .builtin "sum"
  | .all => .builtin "all"
  | .any => .builtin "any"
theorem Bi.boot (b : Bi) : bootBuiltins b.name = some b.val := by cases b <;> decide +kernel
theorem Bi.nn (b : Bi) : b.name ≠ "__name__" := by cases b <;> decide +kernel
theorem Bi.nd (b : Bi) : (b.name == ("__debug__" : Str)) = false := by cases b <;> decide +kernel
theorem reps1 {K : PySem.W.Frag} {H : Hp} {vs : List V} {d : D} (r : Reps K H vs [d]) : ∃ v, vs = [v] ∧ Rep K H v d := by
  cases r with
  | cons h t => cases t; exact ⟨_, rfl, h⟩
theorem reps2 {K : PySem.W.Frag} {H : Hp} {vs : List V} {d e : D} (r : Reps K H vs [d, e]) : ∃ v w, vs = [v, w] ∧ Rep K H v d ∧ Rep K H w e := by
  cases r with
  | cons h t =>
    cases t with
    | cons h2 t2 => cases t2; exact ⟨_, _, rfl, h, h2⟩
theorem reps_ints {K : PySem.W.Frag} {H : Hp} : ∀ {vs : List V} {ds : List D} {ns : List Int}, Reps K H vs ds → intsOf ds = some ns → vs = ns.map V.int
  | _, _, _, .nil, h => by cases h; rfl
  | _, _, _, .cons (d := d) (ds := ds) r t, h => by
    cases d with
    | int i =>
      unfold intsOf at h
      cases e : intsOf ds with
      | none => rw [e] at h; cases h
      | some ns =>
        rw [e] at h
        cases h
        cases r
        rw [reps_ints t e]
        rfl
    | _ => cases h
theorem reps_bls {K : PySem.W.Frag} {H : Hp} : ∀ {vs : List V} {ds : List D} {ns : List Bool}, Reps K H vs ds → blsOf ds = some ns → vs = ns.map V.bl
  | _, _, _, .nil, h => by cases h; rfl
  | _, _, _, .cons (d := d) (ds := ds) r t, h => by
    cases d with
    | bl i =>
      unfold blsOf at h
      cases e : blsOf ds with
      | none => rw [e] at h; cases h
      | some ns =>
        rw [e] at h
        cases h
        cases r
        rw [reps_bls t e]
        rfl
    | _ => cases h
section
variable {X : Cx} {W : Wi} {pos : Pos}
theorem Bi.call (b : Bi) (hc : X.calm = true) : CallR X b.val (rMl X.K b.fn) := by
  cases b with
  | abs =>
    exact CallR_imp call_abs fun x H Q ⟨H0, ds, z, s, r, hz, q⟩ => by
      have hz : absL ds = some z := hz
      unfold absL at hz
      split at hz
      · cases hz
        obtain ⟨v, rfl, rv⟩ := reps1 r
        cases rv
        exact ⟨_, rfl, q _ H0 H (Gr.refl s) (.int _)⟩
      · cases hz
  | max =>
    intro pins s0 σ H xs us Q I rv h
    obtain ⟨H0, ds, z, s, r, hz, q⟩ := h
    have hz : maxL ds = some z := hz
    unfold maxL at hz
    split at hz
    · cases hz
      refine call_max2 hc pins s0 σ H xs us Q I rv ?_
      obtain ⟨v, w, rfl, rv, rw'⟩ := reps2 r
      cases rv
      cases rw'
      exact ⟨_, _, rfl, q _ H0 H (Gr.refl s) (.int _)⟩
    · rename_i es _
      cases e : intsOf es with
      | none => rw [e] at hz; cases hz
      | some ns =>
        rw [e] at hz
        have hz : (topI ns).map D.int = some z := hz
        cases e3 : topI ns with
        | none => rw [e3] at hz; cases hz
        | some m =>
          rw [e3] at hz
          cases hz
          obtain ⟨h1, h2⟩ := topI_ok e3
          refine cr_max hc pins s0 σ H xs us Q I rv ?_
          obtain ⟨v, rfl, rv9⟩ := reps1 r
          cases rv9 with
          | lst h rs =>
            have e2 := reps_ints rs e
            subst e2
            refine ⟨_, ns, rfl, s.seq h, List.length_pos_of_mem h1, fun k k1 k2 => ?_⟩
            have : k = m := by
              have a := h2 k k1
              have b := k2 m h1
              omega
            subst this
            exact q _ H0 H (Gr.refl s) (.int _)
    · cases hz
  | min =>
    intro pins s0 σ H xs us Q I rv h
    obtain ⟨H0, ds, z, s, r, hz, q⟩ := h
    have hz : minL ds = some z := hz
    unfold minL at hz
    split at hz
    · cases hz
      refine call_min2 hc pins s0 σ H xs us Q I rv ?_
      obtain ⟨v, w, rfl, rv, rw'⟩ := reps2 r
      cases rv
      cases rw'
      exact ⟨_, _, rfl, q _ H0 H (Gr.refl s) (.int _)⟩
    · rename_i es _
      cases e : intsOf es with
      | none => rw [e] at hz; cases hz
      | some ns =>
        rw [e] at hz
        have hz : (lowI ns).map D.int = some z := hz
        cases e3 : lowI ns with
        | none => rw [e3] at hz; cases hz
        | some m =>
          rw [e3] at hz
          cases hz
          obtain ⟨h1, h2⟩ := lowI_ok e3
          refine cr_min hc pins s0 σ H xs us Q I rv ?_
          obtain ⟨v, rfl, rv9⟩ := reps1 r
          cases rv9 with
          | lst h rs =>
            have e2 := reps_ints rs e
            subst e2
            refine ⟨_, ns, rfl, s.seq h, List.length_pos_of_mem h1, fun k k1 k2 => ?_⟩
            have : k = m := by
              have a := h2 k k1
              have b := k2 m h1
              omega
            subst this
            exact q _ H0 H (Gr.refl s) (.int _)
    · cases hz
  | len =>
    exact CallR_imp call_len fun x H Q ⟨H0, ds, z, s, r, hz, q⟩ => by
      have hz : lenL ds = some z := hz
      unfold lenL at hz
      split at hz
      · cases hz
        obtain ⟨v, rfl, rv⟩ := reps1 r
        cases rv with
        | tup h rs => exact ⟨_, _, rfl, .inr ⟨_, Same.seqT s h, rs.length.symm⟩, q _ H0 H (Gr.refl s) (.int _)⟩
      · cases hz
        obtain ⟨v, rfl, rv⟩ := reps1 r
        cases rv with
        | lst h rs => exact ⟨_, _, rfl, .inl ⟨_, s.seq h, rs.length.symm⟩, q _ H0 H (Gr.refl s) (.int _)⟩
      · split at hz
        · rename_i c
          cases hz
          obtain ⟨v, rfl, rv⟩ := reps1 r
          cases rv
          exact ⟨_, _, rfl, ⟨c, rfl⟩, q _ H0 H (Gr.refl s) (.int _)⟩
        · cases hz
      · cases hz
  | tup =>
    exact CallR_imp call_tuple_of fun x H Q ⟨H0, ds, z, s, r, hz, q⟩ => by
      have hz : tupL ds = some z := hz
      unfold tupL at hz
      split at hz
      · cases hz
        obtain ⟨v, rfl, rv⟩ := reps1 r
        cases rv with
        | lst h rs =>
          refine ⟨_, _, rfl, .inl ⟨s.seq h, fun l hl => ?_⟩⟩
          exact q _ _ _ (Gr.new s hl) (.tup (.inl (.inl upd_same)) (rs.mono (Gr.new s hl).h0))
      · cases hz
        obtain ⟨v, rfl, rv⟩ := reps1 r
        cases rv with
        | tup h rs => exact ⟨_, _, rfl, .inr ⟨Same.seqT s h, q _ H0 H (Gr.refl s) (.tup h rs)⟩⟩
      · cases hz
  | int =>
    exact CallR_imp call_int1 fun x H Q ⟨H0, ds, z, s, r, hz, q⟩ => by
      have hz : intL ds = some z := hz
      unfold intL at hz
      split at hz
      · cases hz
        obtain ⟨v, rfl, rv⟩ := reps1 r
        cases rv
        exact .inl ⟨_, rfl, q _ H0 H (Gr.refl s) (.int _)⟩
      · cases hz
        obtain ⟨v, rfl, rv⟩ := reps1 r
        cases rv
        exact .inr ⟨_, rfl, q _ H0 H (Gr.refl s) (.int _)⟩
      · cases hz
  | sum =>
    exact CallR_imp (cr_sum hc) fun x H Q ⟨H0, ds, z, s, r, hz, q⟩ => by
      have hz : sumL ds = some z := hz
      unfold sumL at hz
      split at hz
      · rename_i es _
        cases e : intsOf es with
        | none => rw [e] at hz; cases hz
        | some ns =>
          rw [e] at hz
          cases hz
          obtain ⟨v, rfl, rv⟩ := reps1 r
          cases rv with
          | lst h rs =>
            have e2 := reps_ints rs e
            subst e2
            exact ⟨_, ns, rfl, s.seq h, q _ H0 H (Gr.refl s) (.int _)⟩
      · cases hz
  | all =>
    exact CallR_imp (cr_all hc) fun x H Q ⟨H0, ds, z, s, r, hz, q⟩ => by
      have hz : allL ds = some z := hz
      unfold allL at hz
      split at hz
      · rename_i es _
        cases e : blsOf es with
        | none => rw [e] at hz; cases hz
        | some ns =>
          rw [e] at hz
          cases hz
          obtain ⟨v, rfl, rv⟩ := reps1 r
          cases rv with
          | lst h rs =>
            have e2 := reps_bls rs e
            subst e2
            exact ⟨_, ns, rfl, s.seq h, q _ H0 H (Gr.refl s) (.bl _)⟩
      · cases hz
  | any =>
    exact CallR_imp (cr_any hc) fun x H Q ⟨H0, ds, z, s, r, hz, q⟩ => by
      have hz : anyL ds = some z := hz
      unfold anyL at hz
      split at hz
      · rename_i es _
        cases e : blsOf es with
        | none => rw [e] at hz; cases hz
        | some ns =>
          rw [e] at hz
          cases hz
          obtain ⟨v, rfl, rv⟩ := reps1 r
          cases rv with
          | lst h rs =>
            have e2 := reps_bls rs e
            subst e2
            exact ⟨_, ns, rfl, s.seq h, q _ H0 H (Gr.refl s) (.bl _)⟩
      · cases hz
theorem me_Bi (b : Bi) {x : Str} {p : Pos} {e : Expr} {es : List Expr} {fs : List Den} (hc : X.calm = true) (hx : x = b.name) (hg : Gl X x) (hm : X.mg x = none) (ha : PA X (e :: es) (tA X.K W (dArgs fs)))
    (he : starEach (e :: es) X.env = (false, eval e X.env) :: starEach es X.env) (hpl : (backTo pos (starEach es X.env)).any (·.1) = false) : PE X (.Call (.Name x p) (e :: es) [] pos) (tM X.K W (dBi b.fn fs)) := by
  subst hx
  have h := b.call hc
  have hb := b.boot
  have n1 := b.nn
  have n2 := b.nd
  generalize ev : b.val = v at h hb
  cases b <;> (subst ev; first | exact me_bi h hg hm hb ha n1 n2 he hpl | exact me_biT h hg hm hb ha n1 n2 he hpl)
theorem Rep.tyx {K : PySem.W.Frag} {H0 H : Hp} {v : V} {d : D} (r : Rep K H0 v d) (s : Same H0 H) (ne : isExc d = false) : TyX K H v (.type (tyD d)) := by
  cases r with
  | non => exact .base .non
  | bl b => exact .base (.bl b)
  | int i => exact .base (.int i)
  | str x => exact .base (.str x)
  | tup h _ =>
    rcases h with (h | ⟨o, h⟩) | ⟨o, its, n, h, c, _⟩
    · exact .base (.tup (s _ _ h))
    · exact .fTuple (s _ _ h)
    · exact .kTuple h c
  | lst h _ =>
    rcases h with (h | ⟨o, h⟩) | ⟨o, its, n, h, c, _⟩
    · exact .base (.lst (s _ _ h))
    · exact .base (.frz (s _ _ h))
    · exact .kList h c
  | dic h _ _ _ => exact .base (.dK (s _ _ h))
  | exc h _ => cases ne
/-- isinstance(e, T), T a built-in class -/
theorem me_isi {ty : String} {tyn : Str} {p p2 : Pos} {e : Expr} {f : Den} (ha : PE X e (tM X.K W f)) (hg : Gl X "isinstance") (hm : X.mg "isinstance" = none) (hg2 : Gl X tyn) (hm2 : X.mg tyn = none) (hv : bootBuiltins tyn = some (.type ty)) (hn : tyn ≠ "__name__") (hdb : (tyn == ("__debug__" : Str)) = false)
    (he : starEach (e :: [.Name tyn p2]) X.env = (false, eval e X.env) :: starEach [.Name tyn p2] X.env) : PE X (.Call (.Name "isinstance" p) [e, .Name tyn p2] [] pos) (tM X.K W (dUn (isiD ty) f)) := by
  have hT : PE X (.Name tyn p2) (tC (.ty ty)) := pe_bltn hg2 hm2 hv rfl hn hdb
  refine PE_imp (pe_callB call_isi hg hm boot_isinstance (pa_cons ha (pa_cons hT pa_nil rfl) he) (by decide +kernel) (by decide +kernel) he rfl) fun σ H Q ⟨G, δ, H0, R, h⟩ => ⟨G, δ, H0, R, PoE.bind h fun d δ1 v H01 H1 R1 s1 r1 h1 => ?_⟩
  obtain ⟨z, hz, h3⟩ := ofO_some h1
  unfold isiD at hz
  split at hz
  · cases hz
  rename_i ne
  have ne : isExc d = false := by simpa using ne
  cases hk : kitB (tyD d) ty with
  | none => rw [hk] at hz; cases hz
  | some b =>
    rw [hk] at hz
    cases hz
    exact ⟨v, .ty ty, _, _, b, rfl, .ty ty, r1.tyx R1.hs ne, kit_ty hk, h3.val R1 (.bl _)⟩
/-! ### subscripts, slices -/
def idxD : D → D → Option D
  | .lst ds, .int i => atI ds i
  | .tup ds, .int i => atI ds i
  | .str x, .int i => if x.length ≤ sizeLine then (atI x.cps.toList i).map fun c => .str ⟨#[c]⟩ else none
  | _, _ => none
theorem reps_at {K : PySem.W.Frag} {H : Hp} {vs : List V} {ds : List D} {i : Int} {z : D} (r : Reps K H vs ds) (h : atI ds i = some z) : ∃ v, atI vs i = some v ∧ Rep K H v z := by
  unfold atI at h ⊢
  rw [r.length]
  cases e : ixN ds.length i with
  | none => rw [e] at h; cases h
  | some j =>
    rw [e] at h
    exact r.get h
theorem ix_M : IxR X (rM X.K idxD) := by
  have h := ix_list (X := X) |>.or (ix_tup.or ix_str)
  intro value slice pins s σ H x y v u Q I rx ry q hs
  refine h value slice pins s σ H x y v u Q I rx ry ?_ hs
  obtain ⟨H0, d, e, z, s, rd, re, hz, q⟩ := q
  unfold idxD at hz
  split at hz
  · cases re
    cases rd with
    | lst h rs =>
      obtain ⟨w, e1, r1⟩ := reps_at rs hz
      exact .inl ⟨_, _, _, _, rfl, rfl, s.seq h, e1, q _ H0 H (Gr.refl s) r1⟩
  · cases re
    cases rd with
    | tup h rs =>
      obtain ⟨w, e1, r1⟩ := reps_at rs hz
      exact .inr (.inl ⟨_, _, _, _, rfl, rfl, Same.seqT s h, e1, q _ H0 H (Gr.refl s) r1⟩)
  · cases re
    cases rd
    split at hz
    · rename_i c
      rename_i x i
      cases e : atI x.cps.toList i with
      | none => rw [e] at hz; cases hz
      | some k =>
        rw [e] at hz
        cases hz
        exact .inr (.inr ⟨_, _, _, rfl, rfl, c, e, q _ H0 H (Gr.refl s) (.str _)⟩)
    · cases hz
  · cases hz
def cutG {α : Type} (xs : List α) (lo hi : Option Int) : List α := (xs.drop (HT.sIx xs.length 0 lo)).take (HT.sIx xs.length xs.length hi - HT.sIx xs.length 0 lo)
theorem reps_cut {K : PySem.W.Frag} {H : Hp} {vs : List V} {ds : List D} (r : Reps K H vs ds) (lo hi : Option Int) : Reps K H (cutV vs lo hi) (cutG ds lo hi) := by
  unfold cutV cutG
  rw [r.length]
  exact (r.drop _).take _
/-- a part of a slice -/
abbrev PDen := En → RE
inductive RP where
  | ok (i : Option Int) (δ : En) | rz (c : Exc) (δ : En) | bad
def dPart : Option Den → En → RP
  | none, δ => .ok none δ
  | some f, δ => match f δ with
    | .ok (.int i) δ => .ok (some i) δ
    | .rz c δ => .rz c δ
    | _ => .bad
def bindP (r : RP) (k : Option Int → En → RE) : RE :=
  match r with
  | .ok d δ => k d δ
  | .rz c δ => .rz c δ
  | .bad => .bad
def bindPF (r : RP) (k : Option Int → En → RF) : RF :=
  match r with
  | .ok d δ => k d δ
  | .rz c δ => .rz c δ
  | .bad => .bad
def PoP (K : PySem.W.Frag) (W : Wi) (G : Gh) (σ : L2.St) (H0 : Hp) (r : RP) (Q : Option Int → Hp → Prop) : Prop :=
  match r with
  | .ok i δ => ∀ H0' H', Rl K G δ σ H0' H' → Same H0 H0' → Q i H'
  | .rz c δ => ∀ cls dd H0' H', Rl K G δ σ H0' H' → Same H0 H0' → ExIs K W.ct c cls dd H' → W.w cls dd σ H'
  | .bad => False
def tP (K : PySem.W.Frag) (W : Wi) (f : En → RP) : TO := fun σ H Q => ∃ G δ H0, Rl K G δ σ H0 H ∧ PoP K W G σ H0 (f δ) Q
theorem PO_imp {e : Option Expr} {t t' : TO} (h : PO X e t) (i : ∀ σ H Q, t' σ H Q → t σ H Q) : PO X e t' := ⟨fun pins s σ H Q I q => h.run pins s σ H Q I (i σ H Q q)⟩
theorem mp_none : PO X none (tP X.K W (dPart none)) := PO_imp po_none fun σ H Q ⟨G, δ, H0, R, h⟩ => h H0 H R (Same.refl _)
theorem mp_some {e : Expr} {f : Den} (h : PE X e (tM X.K W f)) : PO X (some e) (tP X.K W (dPart (some f))) := PO_imp (po_some h) fun σ H Q ⟨G, δ, H0, R, q⟩ => ⟨G, δ, H0, R, by
  simp only [dPart] at q
  cases e : f δ with
  | bad => rw [e] at q; exact q
  | rz c δ1 => rw [e] at q; exact q
  | ok d δ1 =>
    rw [e] at q
    cases d with
    | int i => exact fun v H1 H' R1 s1 r1 => by cases r1; exact ⟨i, rfl, q H1 H' R1 s1⟩
    | _ => exact q.elim⟩
theorem PoP.up {K : PySem.W.Frag} {G : Gh} {σ : L2.St} {H0 H0' : Hp} {r : RP} {Q : Option Int → Hp → Prop} (h : PoP K W G σ H0 r Q) (s : Same H0 H0') : PoP K W G σ H0' r Q := by
  cases r with
  | ok d δ => exact fun H0'' H' R s' => h H0'' H' R (s.trans s')
  | rz c δ => exact fun cls dd H0'' H' R s' => h cls dd H0'' H' R (s.trans s')
  | bad => exact h
theorem PoP.bind {K : PySem.W.Frag} {G : Gh} {σ : L2.St} {H0 : Hp} {Q : VK} {r : RP} {Q' : Option Int → Hp → Prop} {k : Option Int → En → RE} (h : PoE K W G σ H0 (bindP r k) Q)
    (hk : ∀ i δ H1 H', Rl K G δ σ H1 H' → Same H0 H1 → PoE K W G σ H1 (k i δ) Q → Q' i H') : PoP K W G σ H0 r Q' := by
  cases r with
  | ok d δ => exact fun H1 H' R s => hk d δ H1 H' R s (h.up s)
  | rz c δ => exact h
  | bad => exact h
theorem PoP.bindF {K : PySem.W.Frag} {G : Gh} {σ : L2.St} {H0 : Hp} {Q : VK} {r : RP} {Q' : Option Int → Hp → Prop} {k : Option Int → En → RF} (h : PoF K W G σ H0 (bindPF r k) Q)
    (hk : ∀ i δ H1 H', Rl K G δ σ H1 H' → Same H0 H1 → PoF K W G σ H1 (k i δ) Q → Q' i H') : PoP K W G σ H0 r Q' := by
  cases r with
  | ok d δ => exact fun H1 H' R s => hk d δ H1 H' R s (h.up s)
  | rz c δ => exact h
  | bad => exact h
/-- a list's slice: a new list -/
def fCut (f : Den) (lo hi : Option Den) : FDen := fun δ => bindEF (f δ) fun d δ1 => bindPF (dPart lo δ1) fun l δ2 => bindPF (dPart hi δ2) fun u δ3 => match d with
  | .lst ds => .ok (.lst (cutG ds l u)) δ3
  | _ => .bad
theorem mf_cut {e : Expr} {f : Den} {lo hi : Option Expr} {fl fh : Option Den} {p2 : Pos} (he : PE X e (tM X.K W f)) (hl : PO X lo (tP X.K W (dPart fl))) (hh : PO X hi (tP X.K W (dPart fh))) : PE X (.Subscript e (.Slice lo hi none p2) pos) (tF X.K W (fCut f fl fh)) :=
  PE_imp (pe_slice sl_list he hl hh) fun σ H Q ⟨G, δ, H0, R, h⟩ => ⟨G, δ, H0, R, PoE.bindF h fun d δ1 v H1 H' R1 s1 r1 h1 => ⟨G, δ1, H1, R1, PoP.bindF h1 fun l δ2 H2 H'' R2 s2 h2 => ⟨G, δ2, H2, R2, PoP.bindF h2 fun u δ3 H3 H''' R3 s3 h3 => by
    have r3 := r1.mono (s2.trans s3)
    split at h3
    · cases r3 with
      | lst q rs => exact ⟨_, _, rfl, R3.hs.seq q, fun p hp => h3.laid R3 hp ⟨_, upd_same, reps_cut rs l u⟩⟩
    · exact h3.elim⟩⟩⟩
/-- a tuple's slice, not the whole; a text's -/
def slD (d : D) (l u : Option Int) : Option D :=
  match d with
  | .tup ds => if HT.sIx ds.length 0 l = 0 ∧ HT.sIx ds.length ds.length u = ds.length then none else some (.tup (cutG ds l u))
  | .str x => if x.length ≤ sizeLine then some (.str (cutS x l u)) else none
  | .lst ds => some (.lst (cutG ds l u))
  | _ => none
def dCut (f : Den) (lo hi : Option Den) : Den := fun δ => bindE (f δ) fun d δ1 => bindP (dPart lo δ1) fun l δ2 => bindP (dPart hi δ2) fun u δ3 => ofO (slD d l u) δ3
theorem me_cut {e : Expr} {f : Den} {lo hi : Option Expr} {fl fh : Option Den} {p2 : Pos} (he : PE X e (tM X.K W f)) (hl : PO X lo (tP X.K W (dPart fl))) (hh : PO X hi (tP X.K W (dPart fh))) : PE X (.Subscript e (.Slice lo hi none p2) pos) (tM X.K W (dCut f fl fh)) :=
  PE_imp (pe_slice ((sl_tup.or sl_str).or sl_list) he hl hh) fun σ H Q ⟨G, δ, H0, R, h⟩ => ⟨G, δ, H0, R, PoE.bind h fun d δ1 v H1 H' R1 s1 r1 h1 => ⟨G, δ1, H1, R1, PoP.bind h1 fun l δ2 H2 H'' R2 s2 h2 => ⟨G, δ2, H2, R2, PoP.bind h2 fun u δ3 H3 H''' R3 s3 h3 => by
    have r3 := r1.mono (s2.trans s3)
    obtain ⟨z, hz, h4⟩ := ofO_some h3
    unfold slD at hz
    split at hz
    · split at hz
      · cases hz
      · rename_i c
        cases hz
        cases r3 with
        | tup q rs =>
          refine .inl (.inl ⟨_, _, rfl, Same.seqT R3.hs q, by rw [rs.length]; exact c, fun p hp => ?_⟩)
          exact h4.new R3 (Gr.new R3.hs hp) (.tup (.inl (.inl upd_same)) ((reps_cut rs l u).mono (Gr.new R3.hs hp).h0))
    · split at hz
      · rename_i c
        cases hz
        cases r3
        exact .inl (.inr ⟨_, rfl, c, h4.val R3 (.str _)⟩)
      · cases hz
    · cases hz
      cases r3 with
      | lst q rs =>
        exact .inr ⟨_, _, rfl, R3.hs.seq q, fun p hp => h4.new R3 (Gr.new R3.hs hp) (.lst (.inl (.inl upd_same)) ((reps_cut rs l u).mono (Gr.new R3.hs hp).h0))⟩
    · cases hz⟩⟩⟩
/-! ### targets -/
/-- storing changes the slots of vs alone -/
def stD (i : Nat) (d : D) (δ : En) : Option En :=
  match δ[i]? with
  | some (.pi _) => none
  | some _ => some (δ.set i (.va d))
  | none => none
inductive Tg where
  | var (i : Nat) | tup (is : List Nat) | nst (iss : List (List Nat))
def stDs : List Nat → List D → En → Option En
  | [], [], δ => some δ
  | i :: is, d :: ds, δ => (stD i d δ).bind (stDs is ds)
  | _, _, _ => none
def stT (is : List Nat) : D → En → Option En
  | .tup ds, δ => stDs is ds δ
  | .lst ds, δ => stDs is ds δ
  | _, _ => none
def stNs : List (List Nat) → List D → En → Option En
  | [], [], δ => some δ
  | is :: iss, d :: ds, δ => (stT is d δ).bind (stNs iss ds)
  | _, _, _ => none
def Tg.st : Tg → D → En → Option En
  | .var i, d, δ => stD i d δ
  | .tup is, .tup ds, δ => stDs is ds δ
  | .tup is, .lst ds, δ => stDs is ds δ
  | .nst iss, .tup ds, δ => stNs iss ds δ
  | .nst iss, .lst ds, δ => stNs iss ds δ
  | _, _, _ => none
def Tg.slots : Tg → List Nat
  | .var i => [i]
  | .tup is => is
  | .nst iss => iss.flatten
def gM (K : PySem.W.Frag) (g : D → En → Option En) (vs : List Nat) : TG := fun v σ H Q => ∃ G δ H0 d δ', Rl K G δ σ H0 H ∧ Rep K H0 v d ∧ g d δ = some δ' ∧
  ∀ σ', Rl K G δ' σ' H0 H → (∀ j, j ∉ vs → σ'[j]? = σ[j]?) → σ'.length = σ.length → Q σ' H
theorem PG_imp {tg : Expr} {t t' : TG} (h : PG X tg t) (i : ∀ v σ H Q, t' v σ H Q → t v σ H Q) : PG X tg t' := by
  refine ⟨?_⟩
  intros
  apply h.run <;> first | assumption | (apply i; assumption)
theorem stD_some {i : Nat} {d : D} {δ δ' : En} (h : stD i d δ = some δ') : δ' = δ.set i (.va d) ∧ ∀ o, δ[i]? ≠ some (.pi o) := by
  unfold stD at h
  split at h
  · cases h
  · rename_i s hs e
    cases h
    exact ⟨rfl, fun o z => by rw [z] at e; cases e; exact hs _ rfl⟩
  · cases h
theorem mg_name {i : Nat} {x : Str} (h : PG X (.Name x pos) (gName i)) : PG X (.Name x pos) (gM X.K (Tg.st (.var i)) [i]) := PG_imp h fun v σ H Q ⟨G, δ, H0, d, δ', R, r, e, q⟩ => by
  obtain ⟨rfl, np⟩ := stD_some e
  refine q _ (R.set_va r np) (fun j hj => ?_) (List.length_set)
  rw [List.getElem?_set_ne (fun z => hj (by rw [z]; exact List.mem_singleton_self _))]
end
end Z

namespace Z
open PySem PySem.Spec PyProof.Rows L2
section
variable {X : Cx} {W : Wi} {pos : Pos}
/-! ### tuple targets -/
theorem PG_or {tg : Expr} {t t' : TG} (h : PG X tg t) (h' : PG X tg t') : PG X tg (fun v σ H Q => t v σ H Q ∨ t' v σ H Q) := ⟨fun pins s σ H v u Q I r q => q.elim (h.run pins s σ H v u Q I r) (h'.run pins s σ H v u Q I r)⟩
def gNames : List Nat → TGs
  | [] => gNil
  | i :: is => gCons (gName i) (gNames is)
theorem gNames_of {K : PySem.W.Frag} {G : Gh} {H0 H : Hp} : ∀ {is : List Nat} {vs : List V} {ds : List D} {δ δ' : En} {σ : L2.St} {Q : L2.St → Hp → Prop}, Rl K G δ σ H0 H → Reps K H0 vs ds → stDs is ds δ = some δ' →
    (∀ σ', Rl K G δ' σ' H0 H → (∀ j, j ∉ is → σ'[j]? = σ[j]?) → σ'.length = σ.length → Q σ' H) → gNames is vs σ H Q
  | [], _, _, δ, δ', σ, Q, R, .nil, e, q => by
    have e : some δ = some δ' := e
    cases e
    exact ⟨rfl, q σ R (fun _ _ => rfl) rfl⟩
  | [], _, _, δ, δ', σ, Q, R, .cons _ _, e, q => by cases e
  | i :: is, _, _, δ, δ', σ, Q, R, .nil, e, q => by cases e
  | i :: is, _, _, δ, δ', σ, Q, R, .cons (d := d) (ds := ds) r rs, e, q => by
    have e : (stD i d δ).bind (stDs is ds) = some δ' := e
    cases e1 : stD i d δ with
    | none => rw [e1] at e; cases e
    | some δ1 =>
      rw [e1] at e
      obtain ⟨rfl, np⟩ := stD_some e1
      refine ⟨_, _, rfl, gNames_of (R.set_va r np) rs e fun σ' R' k kl => q σ' R' (fun j hj => ?_) (by rw [kl, List.length_set])⟩
      rw [k j fun z => hj (List.mem_cons_of_mem _ z), List.getElem?_set_ne (fun z => hj (by rw [z]; exact List.mem_cons_self))]
theorem mg_tup {es : List Expr} {k : Nat} {is : List Nat} (hc : X.calm = true) (h : PGs X es (gNames is)) (hn : (assignEach es X.env).length = is.length) (hst : (assignEach es X.env).findIdx? (·.1) = none) :
    PG X (.Tuple es k pos) (gM X.K (Tg.st (.tup is)) is) := by
  refine PG_imp (PG_or (pg_tup hc h hn hst) (pg_unl hc h hn hst)) fun v σ H Q ⟨G, δ, H0, d, δ', R, r, e, q⟩ => ?_
  have len : ∀ {is : List Nat} {ds : List D} {δ : En} {δ' : En}, stDs is ds δ = some δ' → ds.length = is.length := by
    intro is
    induction is with
    | nil => intro ds δ δ' h; cases ds with
      | nil => rfl
      | cons _ _ => cases h
    | cons i is ih => intro ds δ δ' h; cases ds with
      | nil => cases h
      | cons d ds =>
        have e : (stD i d δ).bind (stDs is ds) = some δ' := h
        cases e1 : stD i d δ with
        | none => rw [e1] at e; cases e
        | some δ1 => rw [e1] at e; rw [List.length_cons, List.length_cons, ih e]
  cases r with
  | tup hq rs =>
    have e : stDs is _ δ = some δ' := e
    exact .inl ⟨_, _, rfl, Same.seqT R.hs hq, by rw [rs.length, len e], gNames_of R rs e q⟩
  | lst hq rs =>
    have e : stDs is _ δ = some δ' := e
    exact .inr ⟨_, _, rfl, R.hs.seq hq, by rw [rs.length, len e], gNames_of R rs e q⟩
  | _ => cases e

def gNsts (K : PySem.W.Frag) : List (List Nat) → TGs
  | [] => gNil
  | is :: iss => gCons (gM K (Tg.st (.tup is)) is) (gNsts K iss)
theorem stT_st {is : List Nat} {d : D} {δ : En} : stT is d δ = Tg.st (.tup is) d δ := by
  cases d <;> rfl
theorem stNs_len : ∀ {iss : List (List Nat)} {ds : List D} {δ δ' : En}, stNs iss ds δ = some δ' → ds.length = iss.length
  | [], [], _, _, _ => rfl
  | [], _ :: _, _, _, h => by cases h
  | _ :: _, [], _, _, h => by cases h
  | is :: iss, d :: ds, δ, δ', h => by
    have e : (stT is d δ).bind (stNs iss ds) = some δ' := h
    cases e1 : stT is d δ with
    | none => rw [e1] at e; cases e
    | some δ1 => rw [e1] at e; rw [List.length_cons, List.length_cons, stNs_len e]
theorem gNsts_of {K : PySem.W.Frag} {G : Gh} {H0 H : Hp} : ∀ {iss : List (List Nat)} {vs : List V} {ds : List D} {δ δ' : En} {σ : L2.St} {Q : L2.St → Hp → Prop}, Rl K G δ σ H0 H → Reps K H0 vs ds → stNs iss ds δ = some δ' →
    (∀ σ', Rl K G δ' σ' H0 H → (∀ j, j ∉ iss.flatten → σ'[j]? = σ[j]?) → σ'.length = σ.length → Q σ' H) → gNsts K iss vs σ H Q
  | [], _, _, δ, δ', σ, Q, R, .nil, e, q => by
    have e : some δ = some δ' := e
    cases e
    exact ⟨rfl, q σ R (fun _ _ => rfl) rfl⟩
  | [], _, _, δ, δ', σ, Q, R, .cons _ _, e, q => by cases e
  | i :: is, _, _, δ, δ', σ, Q, R, .nil, e, q => by cases e
  | is :: iss, _, _, δ, δ', σ, Q, R, .cons (d := d) (ds := ds) r rs, e, q => by
    have e : (stT is d δ).bind (stNs iss ds) = some δ' := e
    cases e1 : stT is d δ with
    | none => rw [e1] at e; cases e
    | some δ1 =>
      rw [e1] at e
      refine ⟨_, _, rfl, G, δ, H0, d, δ1, R, r, stT_st.symm.trans e1, fun σ1 R1 k1 l1 => gNsts_of R1 rs e fun σ' R' k kl => q σ' R' (fun j hj => ?_) (kl.trans l1)⟩
      rw [k j fun z => hj (by rw [List.flatten_cons]; exact List.mem_append_right _ z), k1 j fun z => hj (by rw [List.flatten_cons]; exact List.mem_append_left _ z)]
theorem mg_nst {es : List Expr} {k : Nat} {iss : List (List Nat)} (hc : X.calm = true) (h : PGs X es (gNsts X.K iss)) (hn : (assignEach es X.env).length = iss.length) (hst : (assignEach es X.env).findIdx? (·.1) = none) :
    PG X (.Tuple es k pos) (gM X.K (Tg.st (.nst iss)) iss.flatten) := by
  refine PG_imp (PG_or (pg_tup hc h hn hst) (pg_unl hc h hn hst)) fun v σ H Q ⟨G, δ, H0, d, δ', R, r, e, q⟩ => ?_
  cases r with
  | tup hq rs =>
    have e : stNs iss _ δ = some δ' := e
    exact .inl ⟨_, _, rfl, Same.seqT R.hs hq, by rw [rs.length, stNs_len e], gNsts_of R rs e q⟩
  | lst hq rs =>
    have e : stNs iss _ δ = some δ' := e
    exact .inr ⟨_, _, rfl, R.hs.seq hq, by rw [rs.length, stNs_len e], gNsts_of R rs e q⟩
  | _ => cases e
/-! ### what is walked -/
structure Yields (K : PySem.W.Frag) (J : It) (He H0 : Hp) (ds : List D) : Prop where
  go : ∀ i H, Same H0 H → Same He H → i < ds.length → J.go i H
  stop : ∀ i H, Same H0 H → Same He H → i = ds.length → J.stop i H
  yld : ∀ i H x H' Hc, Same H0 Hc → Same Hc H → Same He H → i < ds.length → J.yld i H x H' → ∃ d H1, ds[i]? = some d ∧ Gr Hc H H1 H' ∧ Rep K H1 x d
inductive RI where
  | ok (ds : List D) (δ : En) | rz (c : Exc) (δ : En) | bad
def PoI (K : PySem.W.Frag) (W : Wi) (G : Gh) (σ : L2.St) (H0 : Hp) (r : RI) (R : It → Hp → Prop) : Prop :=
  match r with
  | .ok ds δ => ∀ J H0' H', Rl K G δ σ H0' H' → Same H0 H0' → Yields K J G.He H0' ds → R J H'
  | .rz c δ => ∀ cls dd H0' H', Rl K G δ σ H0' H' → Same H0 H0' → ExIs K W.ct c cls dd H' → W.w cls dd σ H'
  | .bad => False
def tI (K : PySem.W.Frag) (W : Wi) (f : En → RI) : TI := fun σ H R => ∃ G δ H0, Rl K G δ σ H0 H ∧ PoI K W G σ H0 (f δ) R
theorem PI_imp {tg e : Expr} {t t' : TI} (h : PI X tg e t) (i : ∀ σ H Q, t' σ H Q → t σ H Q) : PI X tg e t' := ⟨fun pins s σ H Q I q => h.run pins s σ H Q I (i σ H Q q)⟩
theorem PI_or {tg e : Expr} {t t' : TI} (h : PI X tg e t) (h' : PI X tg e t') : PI X tg e (fun σ H Q => t σ H Q ∨ t' σ H Q) := ⟨fun pins s σ H Q I q => q.elim (h.run pins s σ H Q I) (h'.run pins s σ H Q I)⟩
def seqOf : D → Option (List D)
  | .lst ds => some ds
  | .tup ds => some ds
  | _ => none
def iSeq (f : Den) : En → RI := fun δ => match f δ with
  | .ok d δ1 => (match seqOf d with
    | some ds => .ok ds δ1
    | none => .bad)
  | .rz c δ => .rz c δ
  | .bad => .bad
theorem yields_lst {K : PySem.W.Frag} {He H0 : Hp} {a : Addr} {xs : List V} {ds : List D} (h : SqL K H0 a xs) (r : Reps K H0 xs ds) : Yields K (Itl K a) He H0 ds where
  go := fun i H s _ hi => by
    obtain ⟨v, e, _⟩ := r.get (List.getElem?_eq_getElem hi)
    exact ⟨xs, v, s.seq h, e⟩
  stop := fun i H s _ hi => ⟨xs, s.seq h, by rw [r.length]; exact Nat.le_of_eq hi.symm⟩
  yld := fun i H x H' Hc s0 s _ hi y => by
    obtain ⟨rfl, y⟩ := y
    obtain ⟨v, e, rv⟩ := r.get (List.getElem?_eq_getElem hi)
    have e2 := y xs (s.seq (s0.seq h))
    rw [e] at e2
    cases e2
    exact ⟨_, Hc, List.getElem?_eq_getElem hi, Gr.refl s, rv.mono s0⟩
theorem yields_tup {K : PySem.W.Frag} {He H0 : Hp} {a : Addr} {xs : List V} {ds : List D} (h : SqT K H0 a xs) (r : Reps K H0 xs ds) : Yields K (Itt K a) He H0 ds where
  go := fun i H s _ hi => by
    obtain ⟨v, e, _⟩ := r.get (List.getElem?_eq_getElem hi)
    exact ⟨xs, v, Same.seqT s h, e⟩
  stop := fun i H s _ hi => ⟨xs, Same.seqT s h, by rw [r.length]; exact Nat.le_of_eq hi.symm⟩
  yld := fun i H x H' Hc s0 s _ hi y => by
    obtain ⟨rfl, y⟩ := y
    obtain ⟨v, e, rv⟩ := r.get (List.getElem?_eq_getElem hi)
    have e2 := y xs (Same.seqT s (Same.seqT s0 h))
    rw [e] at e2
    cases e2
    exact ⟨_, Hc, List.getElem?_eq_getElem hi, Gr.refl s, rv.mono s0⟩
theorem mi_seq {tg e : Expr} {f : Den} (h : PE X e (tM X.K W f)) : PI X tg e (tI X.K W (iSeq f)) := by
  -- the two readings of e differ in the tail alone
  refine ⟨fun pins s σ H R I ⟨G, δ, H0, Rr, q⟩ => ?_⟩
  unfold iSeq at q
  cases ef : f δ with
  | bad => rw [ef] at q; exact q.elim
  | rz c δ1 =>
    rw [ef] at q
    exact (pi_list (tg := tg) h).run pins s σ H R I ⟨G, δ, H0, Rr, by rw [ef]; exact q⟩
  | ok d δ1 =>
    rw [ef] at q
    cases d with
    | lst ds => exact (pi_list (tg := tg) h).run pins s σ H R I ⟨G, δ, H0, Rr, by
        rw [ef]
        intro v H1 H' R1 s1 r1
        cases r1 with
        | lst hq rs => exact ⟨_, rfl, ⟨_, R1.hs.seq hq⟩, q _ H1 H' R1 s1 (yields_lst hq rs)⟩⟩
    | tup ds => exact (pi_tup (tg := tg) h).run pins s σ H R I ⟨G, δ, H0, Rr, by
        rw [ef]
        intro v H1 H' R1 s1 r1
        cases r1 with
        | tup hq rs => exact ⟨_, rfl, ⟨_, Same.seqT R1.hs hq⟩, q _ H1 H' R1 s1 (yields_tup hq rs)⟩⟩
    | _ => exact q.elim
/-- range -/
def rngD (lo : Int) : Nat → List D
  | 0 => []
  | n + 1 => .int lo :: rngD (lo + 1) n
theorem rngD_len : ∀ (lo : Int) (n : Nat), (rngD lo n).length = n
  | _, 0 => rfl
  | lo, n + 1 => by rw [rngD, List.length_cons, rngD_len]
theorem rngD_get : ∀ (lo : Int) (n i : Nat), i < n → (rngD lo n)[i]? = some (.int (lo + i))
  | _, 0, _, h => absurd h (by omega)
  | lo, n + 1, 0, _ => by rw [rngD]; simp
  | lo, n + 1, i + 1, h => by
    rw [rngD, List.getElem?_cons_succ, rngD_get (lo + 1) n i (by omega)]
    congr 2
    omega
theorem yields_rng {K : PySem.W.Frag} {He H0 : Hp} (lo : Int) (n : Nat) : Yields K (Itr lo n) He H0 (rngD lo n) where
  go := fun i H s _ hi => by rw [rngD_len] at hi; exact hi
  stop := fun i H s _ hi => by rw [rngD_len] at hi; exact Nat.le_of_eq hi.symm
  yld := fun i H x H' Hc s0 s _ hi y => by
    obtain ⟨rfl, rfl⟩ := y
    rw [rngD_len] at hi
    exact ⟨_, Hc, rngD_get lo n i hi, Gr.refl s, .int _⟩
def rngOk (i : Int) : Bool := decide (-(2 ^ 62) ≤ i) && decide (i < 2 ^ 62)
theorem rngOk_iff {i : Int} (h : rngOk i = true) : -(2 ^ 62) ≤ i ∧ i < 2 ^ 62 := by
  unfold rngOk at h
  rw [Bool.and_eq_true, decide_eq_true_eq, decide_eq_true_eq] at h
  exact h
def rngL : List D → Option (List D)
  | [.int j] => if rngOk j then some (rngD 0 j.toNat) else none
  | [.int i, .int j] => if rngOk i && rngOk j then some (rngD i (j - i).toNat) else none
  | _ => none
def iRng (fs : List Den) : En → RI := fun δ => match dArgs fs δ with
  | .ok ds δ1 => (match rngL ds with
    | some es => .ok es δ1
    | none => .bad)
  | .rz c δ => .rz c δ
  | .bad => .bad
theorem dArgs_len : ∀ {fs : List Den} {δ : En} {ds : List D} {δ1 : En}, dArgs fs δ = .ok ds δ1 → ds.length = fs.length := by
  intro fs
  induction fs with
  | nil => intro δ ds δ1 h; cases h; rfl
  | cons f fs ih =>
    intro δ ds δ1 h
    unfold dArgs at h
    cases e : f δ with
    | ok d δ2 =>
      rw [e] at h
      have h : bindAA (dArgs fs δ2) (fun ds δ2 => RA.ok (d :: ds) δ2) = .ok ds δ1 := h
      cases e2 : dArgs fs δ2 with
      | ok ds2 δ3 =>
        rw [e2] at h
        have h : RA.ok (d :: ds2) δ3 = .ok ds δ1 := h
        cases h
        rw [List.length_cons, List.length_cons, ih e2]
      | rz c δ3 => rw [e2] at h; cases h
      | bad => rw [e2] at h; cases h
    | rz c δ2 => rw [e] at h; cases h
    | bad => rw [e] at h; cases h
theorem rng1_read {f : Den} {σ : L2.St} {H : Hp} {R : It → Hp → Prop} (h : tI X.K W (iRng [f]) σ H R) : L2.iRng1 (tA X.K W (dArgs [f])) σ H R :=
  match h with
  | ⟨G, δ, H0, Rr, q⟩ => ⟨G, δ, H0, Rr, by
    unfold iRng at q
    cases e : dArgs [f] δ with
    | bad => rw [e] at q; exact q
    | rz c δ1 => rw [e] at q; exact q
    | ok ds δ1 =>
      rw [e] at q
      intro vs H1 H' R1 s1 r1
      have l := dArgs_len e
      match ds, l, r1, q with
      | [d], _, r1, q =>
        obtain ⟨v, rfl, rv⟩ := reps1 r1
        cases d with
        | int j =>
          simp only [rngL] at q
          split at q
          · rename_i es he
            split at he
            · rename_i c
              cases he
              obtain ⟨c1, c2⟩ := rngOk_iff c
              cases rv
              exact ⟨j, rfl, c1, c2, q _ H1 H' R1 s1 (yields_rng 0 j.toNat)⟩
            · cases he
          · exact q.elim
        | _ => exact q.elim⟩
theorem mi_rng1 {tg a : Expr} {f : Den} {p : Pos} (hg : Gl X "range") (hm : X.mg "range" = none) (ha : PA X [a] (tA X.K W (dArgs [f]))) (hs : starEach [a] X.env = [(false, eval a X.env)]) : PI X tg (.Call (.Name "range" p) [a] [] pos) (tI X.K W (iRng [f])) :=
  PI_imp (pi_range1 hg hm ha hs) fun σ H R q => rng1_read q
theorem mi_rng2 {tg a b : Expr} {f g : Den} {p : Pos} (hg : Gl X "range") (hm : X.mg "range" = none) (ha : PA X [a, b] (tA X.K W (dArgs [f, g]))) (hs : starEach [a, b] X.env = [(false, eval a X.env), (false, eval b X.env)]) (hs2 : starEach [b] X.env = [(false, eval b X.env)]) : PI X tg (.Call (.Name "range" p) [a, b] [] pos) (tI X.K W (iRng [f, g])) :=
  PI_imp (pi_range2 hg hm ha hs hs2) fun σ H R ⟨G, δ, H0, Rr, q⟩ => ⟨G, δ, H0, Rr, by
    unfold iRng at q
    cases e : dArgs [f, g] δ with
    | bad => rw [e] at q; exact q
    | rz c δ1 => rw [e] at q; exact q
    | ok ds δ1 =>
      rw [e] at q
      intro vs H1 H' R1 s1 r1
      have l := dArgs_len e
      match ds, l, r1, q with
      | [d, d2], _, r1, q =>
        obtain ⟨v, v2, rfl, rv, rv2⟩ := reps2 r1
        cases d with
        | int i =>
          cases d2 with
          | int j =>
            simp only [rngL] at q
            split at q
            · rename_i es he
              split at he
              · rename_i c
                cases he
                rw [Bool.and_eq_true] at c
                obtain ⟨c1, c2⟩ := rngOk_iff c.1
                obtain ⟨c3, c4⟩ := rngOk_iff c.2
                cases rv
                cases rv2
                exact ⟨i, j, rfl, ⟨c1, c2, c3, c4⟩, q _ H1 H' R1 s1 (yields_rng i (j - i).toNat)⟩
              · cases he
            · exact q.elim
          | _ => exact q.elim
        | _ => exact q.elim⟩

/-! ### statements -/
def PoS (K : PySem.W.Frag) (W : Wi) (G : Gh) (H0 : Hp) (r : RS) (D : Ends) : Prop :=
  match r with
  | .nx δ => ∀ σ' H0' H', Rl K G δ σ' H0' H' → Same H0 H0' → D.nx σ' H'
  | .bk δ => ∀ σ' H0' H', Rl K G δ σ' H0' H' → Same H0 H0' → D.bk σ' H'
  | .ct δ => ∀ σ' H0' H', Rl K G δ σ' H0' H' → Same H0 H0' → D.ct σ' H'
  | .rt d δ => ∀ v σ' H0' H', Rl K G δ σ' H0' H' → Same H0 H0' → Rep K H0' v d → D.rt v H'
  | .ro o δ => ∀ a σ' H0' H', Rl K G δ σ' H0' H' → Same H0 H0' → H0' a = none → G.He a = none → OwnAt K H0' H' a o → (∀ (j : Nat) (s : Sl), δ[j]? = some s → isOwn s = true → σ'[j]? ≠ some (some (V.ref a))) → D.rt (.ref a) H'
  | .rz c δ => ∀ cls dd σ' H0' H', Rl K G δ σ' H0' H' → Same H0 H0' → ExIs K W.ct c cls dd H' → W.w cls dd σ' H'
  | .bad => False
theorem PoS.up {K : PySem.W.Frag} {G : Gh} {H0 H0' : Hp} {r : RS} {D : Ends} (h : PoS K W G H0 r D) (s : Same H0 H0') : PoS K W G H0' r D := by
  cases r with
  | nx δ => exact fun σ' H1 H' R s' => h σ' H1 H' R (s.trans s')
  | bk δ => exact fun σ' H1 H' R s' => h σ' H1 H' R (s.trans s')
  | ct δ => exact fun σ' H1 H' R s' => h σ' H1 H' R (s.trans s')
  | rt d δ => exact fun v σ' H1 H' R s' => h v σ' H1 H' R (s.trans s')
  | ro d δ => exact fun v σ' H1 H' R s' => h v σ' H1 H' R (s.trans s')
  | rz c δ => exact fun cls dd σ' H1 H' R s' => h cls dd σ' H1 H' R (s.trans s')
  | bad => exact h
def sM (K : PySem.W.Frag) (W : Wi) (f : SDen) : TS := fun D σ H => ∃ G δ H0, Rl K G δ σ H0 H ∧ PoS K W G H0 (f δ) D
def bindS (r : RS) (k : En → RS) : RS :=
  match r with
  | .nx δ => k δ
  | .bk δ => .bk δ
  | .ct δ => .ct δ
  | .rt d δ => .rt d δ
  | .ro d δ => .ro d δ
  | .rz c δ => .rz c δ
  | .bad => .bad
def bindES (r : RE) (k : D → En → RS) : RS :=
  match r with
  | .ok d δ => k d δ
  | .rz c δ => .rz c δ
  | .bad => .bad
def bindTS (r : RE) (k : Bool → En → RS) : RS := bindES r fun d δ => match d with
  | .bl b => k b δ
  | _ => .bad
def sSeq (f g : SDen) : SDen := fun δ => bindS (f δ) g
def sNil : SDen := fun δ => .nx δ
theorem PoS.nx_ {K : PySem.W.Frag} {G : Gh} {δ : En} {σ : L2.St} {H0 H : Hp} {D : Ends} (h : PoS K W G H0 (.nx δ) D) (R : Rl K G δ σ H0 H) : D.nx σ H := h σ H0 H R (Same.refl _)
theorem ms_nil : PSs X [] (sM X.K W sNil) := PSs_imp pss_nil fun D σ H ⟨G, δ, H0, R, q⟩ => PoS.nx_ q R
theorem ms_cons {st : Stmt} {rest : List Stmt} {f g : SDen} (h1 : PS X st (sM X.K W f)) (h2 : PSs X rest (sM X.K W g)) : PSs X (st :: rest) (sM X.K W (sSeq f g)) :=
  PSs_imp (pss_cons h1 h2) fun D σ H ⟨G, δ, H0, R, q⟩ => ⟨G, δ, H0, R, by
    unfold sSeq at q
    cases e : f δ with
    | nx δ1 =>
      rw [e] at q
      exact fun σ' H0' H' R' s => ⟨G, δ1, H0', R', PoS.up (r := g δ1) q s⟩
    | _ => rw [e] at q; exact q⟩
theorem PoS.bindE {K : PySem.W.Frag} {G : Gh} {σ : L2.St} {H0 : Hp} {r : RE} {k : D → En → RS} {D' : Ends} {Q' : VK} (h : PoS K W G H0 (bindES r k) D')
    (hk : ∀ d δ v H1 H', Rl K G δ σ H1 H' → Rep K H1 v d → PoS K W G H1 (k d δ) D' → Q' v H') : PoE K W G σ H0 r Q' := by
  cases r with
  | ok d δ => exact fun v H1 H' R s p => hk d δ v H1 H' R p (PoS.up h s)
  | rz c δ => exact fun cls dd H1 H' R s x => h cls dd σ H1 H' R s x
  | bad => exact h
theorem PoS.bindT {K : PySem.W.Frag} {G : Gh} {σ : L2.St} {H0 : Hp} {r : RE} {k : Bool → En → RS} {D' : Ends} {Q' : Bool → Hp → Prop} (h : PoS K W G H0 (bindTS r k) D')
    (hk : ∀ b δ H1 H', Rl K G δ σ H1 H' → Same H0 H1 → PoS K W G H1 (k b δ) D' → Q' b H') : PoT K W G σ H0 r Q' := by
  cases r with
  | ok d δ =>
    cases d with
    | bl b => exact ⟨b, rfl, fun H1 H' R s => hk b δ H1 H' R s (PoS.up (r := k b δ) h s)⟩
    | _ => exact absurd h (fun z => z)
  | rz c δ => exact fun cls dd H1 H' R s x => h cls dd σ H1 H' R s x
  | bad => exact h
def sPass : SDen := fun δ => .nx δ
def sBrk : SDen := fun δ => .bk δ
def sCnt : SDen := fun δ => .ct δ
theorem ms_pass : PS X (.Pass pos) (sM X.K W sPass) := PS_imp ps_pass fun D σ H ⟨G, δ, H0, R, q⟩ => PoS.nx_ q R
theorem ms_brk : PS X (.Break pos) (sM X.K W sBrk) := PS_imp ps_break fun D σ H ⟨G, δ, H0, R, q⟩ => q σ H0 H R (Same.refl _)
theorem ms_cnt : PS X (.Continue pos) (sM X.K W sCnt) := PS_imp ps_continue fun D σ H ⟨G, δ, H0, R, q⟩ => q σ H0 H R (Same.refl _)
def sExp (f : Den) : SDen := fun δ => bindES (f δ) fun _ δ1 => .nx δ1
theorem ms_exp {e : Expr} {f : Den} (he : PE X e (tM X.K W f)) (hs : swapsWith e none pos.line X.env = pure false) : PS X (.Expr e pos) (sM X.K W (sExp f)) :=
  PS_imp (ps_expr he hs) fun D σ H ⟨G, δ, H0, R, q⟩ => ⟨G, δ, H0, R, PoS.bindE q fun d δ1 v H1 H' R1 r1 h1 => PoS.nx_ h1 R1⟩
def sRet (f : Den) : SDen := fun δ => bindES (f δ) fun d δ1 => .rt d δ1
theorem ms_ret {e : Expr} {f : Den} (he : PE X e (tM X.K W f)) : PS X (.Return (some e) pos) (sM X.K W (sRet f)) :=
  PS_imp (ps_ret he) fun D σ H ⟨G, δ, H0, R, q⟩ => ⟨G, δ, H0, R, PoS.bindE q fun d δ1 v H1 H' R1 r1 h1 => h1 v σ H1 H' R1 (Same.refl _) r1⟩
def sRetN : SDen := fun δ => .rt .non δ
theorem ms_retN : PS X (.Return none pos) (sM X.K W sRetN) := PS_imp ps_retN fun D σ H ⟨G, δ, H0, R, q⟩ => q .non σ H0 H R (Same.refl _) .non
def sIf (c : Den) (f g : SDen) : SDen := fun δ => bindTS (c δ) fun b δ1 => if b then f δ1 else g δ1
theorem ms_if {c : Expr} {a b : List Stmt} {fc : Den} {f g : SDen} (hc : PT X c (tT X.K W fc)) (ha : PSs X a (sM X.K W f)) (hb : PSs X b (sM X.K W g)) : PS X (.If c a b pos) (sM X.K W (sIf fc f g)) :=
  PS_imp (ps_if hc ha hb) fun D σ H ⟨G, δ, H0, R, q⟩ => ⟨G, δ, H0, R, PoS.bindT q fun b δ1 H1 H' R1 _ h1 => by
    cases b with
    | true => exact ⟨G, δ1, H1, R1, h1⟩
    | false => exact ⟨G, δ1, H1, R1, h1⟩⟩
def sAsg (g : D → En → Option En) (f : Den) : SDen := fun δ => bindES (f δ) fun d δ1 => match g d δ1 with
  | some δ2 => .nx δ2
  | none => .bad
theorem asg_step {K : PySem.W.Frag} {G : Gh} {δ1 : En} {σ : L2.St} {H1 H' : Hp} {d : D} {v : V} {g : D → En → Option En} {vs : List Nat} {D' : Ends} (R1 : Rl K G δ1 σ H1 H') (r1 : Rep K H1 v d)
    (h1 : PoS K W G H1 (match g d δ1 with | some δ2 => .nx δ2 | none => .bad) D') : gM K g vs v σ H' D'.nx := by
  split at h1
  · rename_i δ2 e
    exact ⟨G, δ1, H1, d, δ2, R1, r1, e, fun σ' R' _ _ => PoS.nx_ h1 R'⟩
  · exact h1.elim
theorem ms_asg {tg e : Expr} {f : Den} {g : D → En → Option En} {vs : List Nat} (he : PE X e (tM X.K W f)) (hg : PG X tg (gM X.K g vs)) (hs : swapsWithSole [tg] e pos.line X.env = pure false) (hw : swappedStores [tg] e X.env = pure none)
    (h1 : (assignEach [tg] X.env).map (·.2) = [assign tg X.env]) : PS X (.Assign [tg] e pos) (sM X.K W (sAsg g f)) :=
  PS_imp (ps_asg he hg hs hw h1) fun D σ H ⟨G, δ, H0, R, q⟩ => ⟨G, δ, H0, R, PoS.bindE q fun d δ1 v H1 H' R1 r1 h1 => asg_step R1 r1 h1⟩
/-- slots of no further use are forgotten -/
def fgt1 (δ : En) (i : Nat) : En :=
  match δ[i]? with
  | some (.pi _) => δ
  | _ => δ.set i .no
def fgt (ws : List Nat) (δ : En) : En := ws.foldl fgt1 δ
theorem Rl.fgt1 {K : PySem.W.Frag} {G : Gh} {δ : En} {σ : L2.St} {H0 H : Hp} (R : Rl K G δ σ H0 H) (i : Nat) : Rl K G (fgt1 δ i) σ H0 H := by
  unfold Z.fgt1
  split
  · exact R
  · rename_i np
    refine ⟨R.hs, R.he, R.hf, R.hn, by rw [List.length_set, R.len], fun j s x a b => ?_, fun j k s t a ne e1 e2 o1 o2 f1 f2 => ?_, fun j a hp => ?_⟩
    · by_cases hj : i = j
      · subst hj
        by_cases hl : i < δ.length
        · rw [List.getElem?_set_self hl] at a; cases a; trivial
        · rw [List.getElem?_eq_none (by simpa using hl)] at a; cases a
      · rw [List.getElem?_set_ne hj] at a
        exact R.sl j s x a b
    · have key : ∀ {j : Nat} {s : Sl}, (δ.set i .no)[j]? = some s → isOwn s = true → δ[j]? = some s := fun {j s} e o => by
        by_cases hj : i = j
        · subst hj
          by_cases hl : i < δ.length
          · rw [List.getElem?_set_self hl] at e; cases e; cases o
          · rw [List.getElem?_eq_none (by simpa using hl)] at e; cases e
        · rw [List.getElem?_set_ne hj] at e; exact e
      exact R.dj j k s t a ne (key e1 o1) (key e2 o2) o1 o2 f1 f2
    · obtain ⟨o, e1, e2⟩ := R.pn j a hp
      have hj : i ≠ j := fun z => by subst z; exact np o e1
      exact ⟨o, by rw [List.getElem?_set_ne hj]; exact e1, e2⟩
theorem Rl.fgt {K : PySem.W.Frag} {G : Gh} {σ : L2.St} {H0 H : Hp} : ∀ (ws : List Nat) {δ : En}, Rl K G δ σ H0 H → Rl K G (fgt ws δ) σ H0 H
  | [], _, R => R
  | i :: ws, δ, R => Rl.fgt ws (R.fgt1 i)
/-- while -/
def loopK (ws : List Nat) (r : RS) (k : En → RS) : RS :=
  match r with
  | .nx δ => k (fgt ws δ)
  | .ct δ => k (fgt ws δ)
  | .bk δ => .nx δ
  | .rt d δ => .rt d δ
  | .ro d δ => .ro d δ
  | .rz c δ => .rz c δ
  | .bad => .bad
theorem PoS.loop {K : PySem.W.Frag} {G : Gh} {H0 : Hp} {ws : List Nat} {r : RS} {k : En → RS} {D : Ends} {N : L2.St → Hp → Prop} (h : PoS K W G H0 (loopK ws r k) D)
    (hN : ∀ δ σ H1 H', Rl K G δ σ H1 H' → Same H0 H1 → PoS K W G H1 (k δ) D → N σ H') : PoS K W G H0 r { D with nx := N, ct := N, bk := D.nx } := by
  cases r with
  | nx δ => exact fun σ' H1 H' R s => hN _ σ' H1 H' (R.fgt ws) s (PoS.up (r := k (fgt ws δ)) h s)
  | ct δ => exact fun σ' H1 H' R s => hN _ σ' H1 H' (R.fgt ws) s (PoS.up (r := k (fgt ws δ)) h s)
  | bk δ => exact h
  | rt d δ => exact h
  | ro d δ => exact h
  | rz c δ => exact h
  | bad => exact h
def whileF (ws : List Nat) (c : Den) (b : SDen) : Nat → En → RS
  | 0, _ => .bad
  | n + 1, δ => bindTS (c δ) fun k δ1 => if k then loopK ws (b δ1) (whileF ws c b n) else .nx δ1
def sWhl (ws : List Nat) (n : En → Nat) (c : Den) (b : SDen) : SDen := fun δ => whileF ws c b (n δ) δ
theorem ms_whl {c : Expr} {body : List Stmt} {fc : Den} {fb : SDen} {n : En → Nat} {ws : List Nat} (hp : PassesOwn (model X.prog X.w) X.A X.env X.xe) (hc : PT X c (tT X.K W fc)) (hb : PSs X body (sM X.K W fb)) : PS X (.While c body [] pos) (sM X.K W (sWhl ws n fc fb)) :=
  PS_imp (ps_while hp hc hb) fun D σ H ⟨G, δ, H0, R, q⟩ => by
    refine ⟨fun m σ H => ∃ δ H0, Rl X.K G δ σ H0 H ∧ PoS X.K W G H0 (whileF ws fc fb m δ) D, ⟨n δ, δ, H0, R, q⟩, ?_⟩
    rintro m σ H ⟨δ, H0, R, q⟩
    cases m with
    | zero => exact q.elim
    | succ m =>
      refine ⟨G, δ, H0, R, PoS.bindT (k := fun k δ1 => if k then loopK ws (fb δ1) (whileF ws fc fb m) else .nx δ1) q fun b δ1 H1 H' R1 _ h1 => ?_⟩
      cases b with
      | false => exact PoS.nx_ h1 R1
      | true =>
        rw [if_pos rfl]
        exact ⟨fun σ' H' => ∃ δ H0, Rl X.K G δ σ' H0 H' ∧ PoS X.K W G H0 (whileF ws fc fb m δ) D, fun σ' H' w => ⟨m, Nat.lt_succ_self _, w⟩, G, δ1, H1, R1, PoS.loop h1 fun δ σ H1 H' R' _ q => ⟨δ, H1, R', q⟩⟩
/-- for -/
def forF (ws : List Nat) (g : D → En → Option En) (b : SDen) : List D → En → RS
  | [], δ => .nx δ
  | d :: ds, δ => match g d δ with
    | none => .bad
    | some δ1 => loopK ws (b δ1) (forF ws g b ds)
def sFor (ws : List Nat) (i : En → RI) (g : D → En → Option En) (b : SDen) : SDen := fun δ => match i δ with
  | .ok ds δ1 => forF ws g b ds (fgt ws δ1)
  | .rz c δ => .rz c δ
  | .bad => .bad
theorem ms_for {tg iter : Expr} {body : List Stmt} {fi : En → RI} {g : D → En → Option En} {vs : List Nat} {fb : SDen} {ws : List Nat} (hp : PassesOwn (model X.prog X.w) X.A X.env X.xe) (hc : X.calm = true) (hi : PI X tg iter (tI X.K W fi)) (hg : PG X tg (gM X.K g vs)) (hb : PSs X body (sM X.K W fb))
    (hs : ∀ x, foldedSetIterable iter X.env x = pure x) : PS X (.For tg iter body [] pos) (sM X.K W (sFor ws fi g fb)) :=
  PS_imp (ps_for hp hc hi hg hb hs) fun D σ H ⟨G, δ, H0, R, q⟩ => ⟨G, δ, H0, R, by
    unfold sFor at q
    cases e : fi δ with
    | bad => rw [e] at q; exact q
    | rz c δ1 => rw [e] at q; exact fun cls dd H1 H' R1 s x => q cls dd σ H1 H' R1 s x
    | ok ds δ1 =>
      rw [e] at q
      intro J Hi H' R1 s1 Y
      refine ⟨fun i m σ H => m = ds.length - i ∧ i ≤ ds.length ∧ ∃ δ H0, Rl X.K G δ σ H0 H ∧ Same Hi H0 ∧ PoS X.K W G H0 (forF ws g fb (ds.drop i) δ) D, ⟨_, rfl, Nat.zero_le _, fgt ws δ1, Hi, R1.fgt ws, Same.refl _, PoS.up (r := forF ws g fb ds (fgt ws δ1)) q s1⟩, ?_⟩
      rintro i m σ H ⟨rfl, hi, δ, H0, R, s0, q⟩
      by_cases hlt : i < ds.length
      · refine .inr ⟨Y.go i H (s0.trans R.hs) R.he hlt, fun σ' H' => ∃ δ H0, Rl X.K G δ σ' H0 H' ∧ Same Hi H0 ∧ PoS X.K W G H0 (forF ws g fb (ds.drop (i + 1)) δ) D, fun σ' H' w => ⟨_, by omega, rfl, hlt, w⟩, fun x H' y => ?_⟩
        obtain ⟨d, H1, ed, gr, r⟩ := Y.yld i H x H' H0 s0 R.hs R.he hlt y
        have ec : ds.drop i = d :: ds.drop (i + 1) := by
          rw [List.drop_eq_getElem_cons hlt]
          congr 1
          rw [List.getElem?_eq_getElem hlt] at ed
          exact Option.some.inj ed
        rw [ec] at q
        have R' := R.grow gr
        simp only [forF] at q
        cases eg : g d δ with
        | none => rw [eg] at q; exact q.elim
        | some δ2 =>
          rw [eg] at q
          have q : PoS X.K W G H0 (loopK ws (fb δ2) (forF ws g fb (ds.drop (i + 1)))) D := q
          exact ⟨G, δ, H1, d, δ2, R', r, eg, fun σ' R2 _ _ => ⟨G, δ2, H1, R2, PoS.loop (q.up gr.h0) fun δ3 σ3 H3 H'' R3 s3 q3 => ⟨δ3, H3, R3, s0.trans (gr.h0.trans s3), q3⟩⟩⟩
      · have ei : i = ds.length := by omega
        refine .inl ⟨Y.stop i H (s0.trans R.hs) R.he (by omega), ?_⟩
        rw [ei, List.drop_length] at q
        exact PoS.nx_ q R⟩
end
end Z

namespace Z
open PySem PySem.Spec PyProof.Rows L2
/-! ### comprehensions -/
def wipeD (δ : En) : List Nat → En
  | [] => δ
  | v :: vs => (wipeD δ vs).set v .no
def okWipe (δ : En) : List Nat → Bool
  | [] => true
  | v :: vs => (match δ[v]? with
    | some .no => true
    | some (.va _) => true
    | _ => false) && okWipe δ vs
def restore (δ1 δ2 : En) : List Nat → En
  | [] => δ2
  | v :: vs => match δ1[v]? with
    | some s => (restore δ1 δ2 vs).set v s
    | none => restore δ1 δ2 vs
theorem wipeD_len (δ : En) : ∀ vs : List Nat, (wipeD δ vs).length = δ.length
  | [] => rfl
  | v :: vs => by unfold wipeD; rw [List.length_set, wipeD_len δ vs]
theorem restore_len (δ1 δ2 : En) : ∀ vs : List Nat, (restore δ1 δ2 vs).length = δ2.length
  | [] => rfl
  | v :: vs => by
    unfold restore
    split
    · rw [List.length_set, restore_len δ1 δ2 vs]
    · exact restore_len δ1 δ2 vs
theorem restore_out {δ1 δ2 : En} {i : Nat} : ∀ {vs : List Nat}, i ∉ vs → (restore δ1 δ2 vs)[i]? = δ2[i]?
  | [], _ => rfl
  | v :: vs, h => by
    unfold restore
    have h1 : v ≠ i := fun z => h (by rw [z]; exact List.mem_cons_self)
    have h2 : i ∉ vs := fun z => h (List.mem_cons_of_mem _ z)
    split
    · rw [List.getElem?_set_ne h1, restore_out h2]
    · exact restore_out h2
theorem restore_in {δ1 δ2 : En} (hl : δ1.length = δ2.length) {i : Nat} : ∀ {vs : List Nat}, i ∈ vs → (restore δ1 δ2 vs)[i]? = δ1[i]?
  | [], h => by cases h
  | v :: vs, h => by
    unfold restore
    by_cases hv : v = i
    · subst hv
      cases e : δ1[v]? with
      | none =>
        have : δ1.length ≤ v := List.getElem?_eq_none_iff.mp e
        exact List.getElem?_eq_none (by rw [restore_len]; omega)
      | some s =>
        have : v < δ1.length := (List.getElem?_eq_some_iff.mp e).1
        show ((restore δ1 δ2 vs).set v s)[v]? = some s
        rw [List.getElem?_set_self (by rw [restore_len]; omega)]
    · have h2 : i ∈ vs := by
        rcases List.mem_cons.mp h with z | z
        · exact absurd z.symm hv
        · exact z
      split
      · rw [List.getElem?_set_ne hv, restore_in hl h2]
      · exact restore_in hl h2
theorem wipe_out {σ : L2.St} {i : Nat} : ∀ {vs : List Nat}, i ∉ vs → (wipe σ vs)[i]? = σ[i]?
  | [], _ => rfl
  | v :: vs, h => by
    unfold wipe
    rw [List.getElem?_set_ne (fun z => h (by rw [z]; exact List.mem_cons_self)), wipe_out fun z => h (List.mem_cons_of_mem _ z)]
theorem wipe_in {σ : L2.St} {i : Nat} : ∀ {vs : List Nat}, i ∈ vs → (wipe σ vs)[i]? = (σ[i]?).map fun _ => none
  | [], h => by cases h
  | v :: vs, h => by
    unfold wipe
    by_cases hv : v = i
    · subst hv
      by_cases hl : v < σ.length
      · rw [List.getElem?_set_self (by rw [wipe_length]; exact hl), List.getElem?_eq_getElem hl]
        rfl
      · rw [List.getElem?_eq_none (by rw [List.length_set, wipe_length]; omega), List.getElem?_eq_none (by omega)]
        rfl
    · rw [List.getElem?_set_ne hv]
      refine wipe_in ?_
      rcases List.mem_cons.mp h with z | z
      · exact absurd z.symm hv
      · exact z
theorem wipe_eq {σ σ' : L2.St} {vs : List Nat} (hl : σ'.length = σ.length) (h : ∀ j, j ∉ vs → σ'[j]? = σ[j]?) : wipe σ' vs = wipe σ vs := by
  refine List.ext_getElem? fun i => ?_
  by_cases hi : i ∈ vs
  · rw [wipe_in hi, wipe_in hi]
    by_cases hl' : i < σ.length
    · rw [List.getElem?_eq_getElem hl', List.getElem?_eq_getElem (by rw [hl]; exact hl')]
      rfl
    · rw [List.getElem?_eq_none (by omega), List.getElem?_eq_none (by omega)]
  · rw [wipe_out hi, wipe_out hi, h i hi]
theorem okWipe_at {δ : En} : ∀ {vs : List Nat}, okWipe δ vs = true → ∀ v ∈ vs, ∀ s, δ[v]? = some s → isOwn s = false
  | [], _, v, h, _, _ => by cases h
  | w :: vs, h, v, hv, s, e => by
    unfold okWipe at h
    rw [Bool.and_eq_true] at h
    rcases List.mem_cons.mp hv with z | z
    · subst z
      rw [e] at h
      cases s with
      | no => rfl
      | va d => rfl
      | ow o => exact absurd h.1 (fun z => by cases z)
      | pi o => exact absurd h.1 (fun z => by cases z)
    · exact okWipe_at h.2 v z s e
section
variable {K : PySem.W.Frag} {G : Gh} {δ δ1 δ2 : En} {σ : L2.St} {H0 H H01 H1 : Hp}
theorem Rl.set_no {i : Nat} (R : Rl K G δ σ H0 H) (np : ∀ a, (i, a) ∉ G.pins) : Rl K G (δ.set i .no) (σ.set i none) H0 H where
  hs := R.hs
  he := R.he
  hf := R.hf
  hn := R.hn
  len := by rw [List.length_set, List.length_set, R.len]
  sl := fun j s x a b => by
    by_cases hj : i = j
    · subst hj
      by_cases hl : i < δ.length
      · rw [List.getElem?_set_self hl] at a; cases a; trivial
      · rw [List.getElem?_eq_none (by simpa using hl)] at a; cases a
    · rw [List.getElem?_set_ne hj] at a b
      exact R.sl j s x a b
  dj := fun j k s t a ne e1 e2 o1 o2 f1 f2 => by
    have hj : i ≠ j := fun z => by
      subst z
      by_cases hl : i < δ.length
      · rw [List.getElem?_set_self hl] at e1; cases e1; cases o1
      · rw [List.getElem?_eq_none (by simpa using hl)] at e1; cases e1
    have hk : i ≠ k := fun z => by
      subst z
      by_cases hl : i < δ.length
      · rw [List.getElem?_set_self hl] at e2; cases e2; cases o2
      · rw [List.getElem?_eq_none (by simpa using hl)] at e2; cases e2
    rw [List.getElem?_set_ne hj] at e1 f1
    rw [List.getElem?_set_ne hk] at e2 f2
    exact R.dj j k s t a ne e1 e2 o1 o2 f1 f2
  pn := fun j a hp => by
    obtain ⟨o, e1, e2⟩ := R.pn j a hp
    have hj : i ≠ j := fun z => np a (z ▸ hp)
    exact ⟨o, by rw [List.getElem?_set_ne hj]; exact e1, by rw [List.getElem?_set_ne hj]; exact e2⟩
theorem Rl.wipe (R : Rl K G δ σ H0 H) : ∀ {vs : List Nat}, (∀ v ∈ vs, ∀ a, (v, a) ∉ G.pins) → Rl K G (wipeD δ vs) (L2.wipe σ vs) H0 H
  | [], _ => R
  | v :: vs, h => (Rl.wipe R fun w hw => h w (List.mem_cons_of_mem _ hw)).set_no (h v List.mem_cons_self)
theorem Rl.npin {i : Nat} (R : Rl K G δ σ H0 H) (h : ∀ s, δ[i]? = some s → isOwn s = false) : ∀ a, (i, a) ∉ G.pins := fun a hp => by
  obtain ⟨o, e, _⟩ := R.pn i a hp
  have := h _ e
  cases this
theorem Rl.restore {vs : List Nat} (R1 : Rl K G δ1 σ H01 H1) (R2 : Rl K G δ2 (L2.wipe σ vs) H0 H) (s : Same H01 H0) (ok : okWipe δ1 vs = true) : Rl K G (restore δ1 δ2 vs) σ H0 H := by
  have l2 : δ2.length = σ.length := by rw [R2.len, wipe_length]
  have hl : δ1.length = δ2.length := by rw [R1.len, l2]
  have nin : ∀ {j : Nat} {s : Sl}, (Z.restore δ1 δ2 vs)[j]? = some s → isOwn s = true → j ∉ vs := fun {j s} e o hj => by
    rw [restore_in hl hj] at e
    have := okWipe_at ok j hj s e
    rw [o] at this
    cases this
  refine ⟨R2.hs, R2.he, R2.hf, R2.hn, by rw [restore_len, l2], fun i t x e1 e2 => ?_, fun j k t u a ne e1 e2 o1 o2 f1 f2 => ?_, fun j a hp => ?_⟩
  · by_cases hi : i ∈ vs
    · rw [restore_in hl hi] at e1
      have q := R1.sl i t x e1 e2
      have no := okWipe_at ok i hi t e1
      cases t with
      | no => trivial
      | va d => obtain ⟨v, e, r⟩ := q; exact ⟨v, e, r.mono s⟩
      | ow o => cases no
      | pi o => cases no
    · rw [restore_out hi] at e1
      exact R2.sl i t x e1 (by rw [wipe_out hi]; exact e2)
  · have n1 := nin e1 o1
    have n2 := nin e2 o2
    rw [restore_out n1] at e1
    rw [restore_out n2] at e2
    exact R2.dj j k t u a ne e1 e2 o1 o2 (by rw [wipe_out n1]; exact f1) (by rw [wipe_out n2]; exact f2)
  · obtain ⟨o, e1, e2⟩ := R2.pn j a hp
    have hj : j ∉ vs := fun z => by
      rw [wipe_in z] at e2
      cases q : σ[j]? with
      | none => rw [q] at e2; cases e2
      | some w => rw [q] at e2; cases e2
    exact ⟨o, by rw [restore_out hj]; exact e1, by rw [wipe_out hj] at e2; exact e2⟩
/-- an object that stays as it is -/
abbrev Gh.hide (G : Gh) (a : Addr) (u : HO) : Gh := { G with He := upd G.He a u }
def NotOwn (δ : En) (σ : L2.St) (a : Addr) : Prop := ∀ (j : Nat) (s : Sl), δ[j]? = some s → isOwn s = true → σ[j]? ≠ some (some (V.ref a))
theorem Rl.hide {a : Addr} {u : HO} (R : Rl K G δ σ H0 H) (hu : H a = some u) (n0 : H0 a = none) (nw : NotOwn δ σ a) : Rl K (G.hide a u) δ σ H0 H := by
  refine ⟨R.hs, fun b w e => ?_, R.hf, fun b e => ?_, R.len, fun j s x h1 h2 => ?_, R.dj, R.pn⟩
  · by_cases hb : b = a
    · subst hb
      have e : upd G.He b u b = some w := e
      rw [upd_same] at e; cases e; exact hu
    · have e : upd G.He a u b = some w := e
      rw [upd_ne hb] at e; exact R.he b w e
  · by_cases hb : b = a
    · subst hb
      rw [n0]
      exact (R.hf.free n0).symm
    · have e : upd G.He a u b ≠ none := e
      rw [upd_ne hb] at e; exact R.hn b e
  · have q := R.sl j s x h1 h2
    have nea : ∀ c, isOwn s = true → x = some (.ref c) → c ≠ a := fun c ho hx z => by
      subst hx z
      exact nw j s h1 ho h2
    cases s with
    | no => trivial
    | va d => exact q
    | ow o => obtain ⟨c, e, n, f, w⟩ := q; exact ⟨c, e, n, by show upd G.He a u c = none; rw [upd_ne (nea c rfl e)]; exact f, w⟩
    | pi o => obtain ⟨c, e, n, f, w, p⟩ := q; exact ⟨c, e, n, by show upd G.He a u c = none; rw [upd_ne (nea c rfl e)]; exact f, w, p⟩
theorem Rl.unhide {a : Addr} {u : HO} (R : Rl K (G.hide a u) δ σ H0 H) (ne : G.He a = none) (nf : G.Hf a = none) : Rl K G δ σ H0 H ∧ H a = some u ∧ H0 a = none ∧ NotOwn δ σ a := by
  have hu : H a = some u := R.he a u upd_same
  have n0 : H0 a = none := by
    have := R.hn a (by show upd G.He a u a ≠ none; rw [upd_same]; simp)
    rw [this]; exact nf
  have neq : ∀ c : Addr, upd G.He a u c = none → c ≠ a := fun c e z => by rw [z, upd_same] at e; cases e
  refine ⟨⟨R.hs, fun b w e => R.he b w (by show upd G.He a u b = some w; rw [upd_ne (ne_of_none e ne)]; exact e), R.hf, fun b e => R.hn b (by
      have hb : b ≠ a := fun z => e (by rw [z]; exact ne)
      show upd G.He a u b ≠ none
      rw [upd_ne hb]; exact e), R.len, fun j s x h1 h2 => ?_, R.dj, R.pn⟩, hu, n0, fun j s e o q => ?_⟩
  · have q := R.sl j s x h1 h2
    cases s with
    | no => trivial
    | va d => exact q
    | ow o => obtain ⟨c, e, n, f, w⟩ := q; exact ⟨c, e, n, by have f : upd G.He a u c = none := f; rw [upd_ne (neq c f)] at f; exact f, w⟩
    | pi o => obtain ⟨c, e, n, f, w, p⟩ := q; exact ⟨c, e, n, by have f : upd G.He a u c = none := f; rw [upd_ne (neq c f)] at f; exact f, w, p⟩
  · have w := R.sl j s _ e q
    cases s with
    | no => cases o
    | va d => cases o
    | ow o => obtain ⟨c, e, n, f, w⟩ := w; cases e; exact neq _ f rfl
    | pi o => obtain ⟨c, e, n, f, w, p⟩ := w; cases e; exact neq _ f rfl
/-- an object that is nobody's is changed -/
theorem Rl.poke {a : Addr} {u : HO} (R : Rl K G δ σ H0 H) (n0 : H0 a = none) (ne : G.He a = none) (nw : NotOwn δ σ a) : Rl K G δ σ H0 (upd H a u) := by
  refine ⟨fun b w e => by rw [upd_ne (ne_of_none e n0)]; exact R.hs b w e, fun b w e => by rw [upd_ne (ne_of_none e ne)]; exact R.he b w e, R.hf, R.hn, R.len, fun j s x h1 h2 => ?_, R.dj, R.pn⟩
  have q := R.sl j s x h1 h2
  have nea : ∀ c, isOwn s = true → x = some (.ref c) → c ≠ a := fun c ho hx z => by
    subst hx z
    exact nw j s h1 ho h2
  cases s with
  | no => trivial
  | va d => exact q
  | ow o => obtain ⟨c, e, n, f, w⟩ := q; exact ⟨c, e, n, f, w.mono (Same.refl _) (upd_ne (nea c rfl e))⟩
  | pi o => obtain ⟨c, e, n, f, w, p⟩ := q; exact ⟨c, e, n, f, w.mono (Same.refl _) (upd_ne (nea c rfl e)), p⟩
theorem NotOwn.wipe {a : Addr} {vs : List Nat} (h : NotOwn δ σ a) : NotOwn (wipeD δ vs) (L2.wipe σ vs) a := by
  have key : ∀ vs : List Nat, NotOwn (wipeD δ vs) (L2.wipe σ vs) a := fun vs => by
    induction vs with
    | nil => exact h
    | cons v vs ih =>
      intro j s e o q
      by_cases hv : v = j
      · subst hv
        have e : ((wipeD δ vs).set v .no)[v]? = some s := e
        by_cases hl : v < (wipeD δ vs).length
        · rw [List.getElem?_set_self hl] at e; cases e; cases o
        · rw [List.getElem?_eq_none (by simpa using hl)] at e; cases e
      · have e : ((wipeD δ vs).set v .no)[j]? = some s := e
        have q : ((L2.wipe σ vs).set v none)[j]? = some (some (V.ref a)) := q
        rw [List.getElem?_set_ne hv] at e q
        exact ih j s e o q
  exact key vs
end
/-- the test of a comprehension -/
def tstO (t : Option Den) (δ : En) : Option (Bool × En) :=
  match t with
  | none => some (true, δ)
  | some f => match f δ with
    | .ok (.bl b) δ1 => some (b, δ1)
    | _ => none
def compF (g : D → En → Option En) (t : Option Den) (f : Den) (vs : List Nat) : List D → En → Option (List D × En)
  | [], δ => some ([], δ)
  | d :: ds, δ => (g d δ).bind fun δ1 => (tstO t δ1).bind fun p =>
    if p.1 then (match f p.2 with
      | .ok e δ3 => (compF g t f vs ds (wipeD δ3 vs)).map fun q => (e :: q.1, q.2)
      | _ => none)
    else compF g t f vs ds (wipeD p.2 vs)
def fComp (i : En → RI) (g : D → En → Option En) (t : Option Den) (f : Den) (vs : List Nat) : FDen := fun δ => match i δ with
  | .ok ds δ1 => if okWipe δ1 vs && decide (ds.length ≤ 1000000) then (match compF g t f vs ds (wipeD δ1 vs) with
    | some (es, δ2) => .ok (.lst es) (restore δ1 δ2 vs)
    | none => .bad) else .bad
  | .rz c δ => .rz c δ
  | .bad => .bad
def tO (K : PySem.W.Frag) (W : Wi) (t : Option Den) : TT := match t with
  | none => tYes
  | some f => tT K W f
abbrev Wi.none (ct : Nat → Addr) : Wi := ⟨fun _ _ _ _ => False, ct⟩
/-- the reading of a comprehension, from what it means -/
theorem comp_read' {K : PySem.W.Frag} {W : Wi} {fi : En → RI} {g : D → En → Option En} {t : Option Den} {f : Den} {vs vg : List Nat} (hv : ∀ j ∈ vg, j ∈ vs) {G : Gh} {δ : En} {H0 : Hp} {σ : L2.St} {H : Hp} {Q : VK} (R : Rl K G δ σ H0 H) (q : PoF K W G σ H0 (fComp fi g t f vs δ) Q) :
    PoI K W G σ H0 (fi δ) fun J H1 => ∀ D, H1 D = none → ∃ W' : Nat → Nat → Hp → Prop, (∃ m, W' 0 m (upd H1 D (.lst []))) ∧ ∀ i m H, W' i m H →
      (J.stop i H ∧ Q (.ref D) H) ∨ (J.go i H ∧ ∃ Nx : Hp → Prop, (∀ H', Nx H' → ∃ m', m' < m ∧ W' (i + 1) m' H') ∧ ∀ x H', J.yld i H x H' → gM K g vg x (wipe σ vs) H' fun σ2 H2 => wipe σ2 vs = wipe σ vs ∧ tO K (Wi.none W.ct) t σ2 H2 fun b H3 =>
        if b = true then tM K (Wi.none W.ct) f σ2 H3 fun y H4 => ∃ acc, H4 D = some (.lst acc) ∧ acc.length < sizeLine ∧ Nx (upd H4 D (.lst (acc ++ [y]))) else Nx H3) := by
  unfold fComp at q
  cases e : fi δ with
  | bad => rw [e] at q; exact q
  | rz c δ1 => rw [e] at q; exact q
  | ok ds δ1 =>
    rw [e] at q
    have q : PoF K W G σ H0 (if okWipe δ1 vs && decide (ds.length ≤ 1000000) then (match compF g t f vs ds (wipeD δ1 vs) with
      | some (es, δ2) => .ok (.lst es) (restore δ1 δ2 vs)
      | none => .bad) else .bad) Q := q
    split at q
    · rename_i c
      rw [Bool.and_eq_true, decide_eq_true_eq] at c
      obtain ⟨ok, hlen⟩ := c
      cases ec : compF g t f vs ds (wipeD δ1 vs) with
      | none => rw [ec] at q; exact q.elim
      | some p =>
        obtain ⟨es, δe⟩ := p
        rw [ec] at q
        intro J Hi H1 R1 s1 Y D hD
        have npin : ∀ v ∈ vs, ∀ a, (v, a) ∉ G.pins := fun v hv => R1.npin fun s es => okWipe_at ok v hv s es
        have nD0 : Hi D = none := R1.hs.free hD
        have nDe : G.He D = none := R1.he_none hD
        have nDf : G.Hf D = none := R1.hf.free nD0
        refine ⟨fun i m H => m = ds.length - i ∧ i ≤ ds.length ∧ ∃ δ H0 acc acds rest, Rl K G δ (wipe σ vs) H0 H ∧ Same Hi H0 ∧ H0 D = none ∧ NotOwn δ (wipe σ vs) D ∧ H D = some (.lst acc) ∧ Reps K H0 acc acds ∧ acds.length ≤ i ∧
          compF g t f vs (ds.drop i) δ = some (rest, δe) ∧ acds ++ rest = es, ?_, ?_⟩
        · refine ⟨_, rfl, Nat.zero_le _, wipeD δ1 vs, Hi, [], [], es, (R1.grow (Gr.lay R1.hs hD)).wipe npin, Same.refl _, nD0, ?_, upd_same, .nil, Nat.le_refl _, ec, rfl⟩
          exact NotOwn.wipe (R1.own_ne hD)
        · rintro i m H ⟨rfl, hi, δ, H0, acc, acds, rest, R, s0, n0, nw, hacc, rs, hl, hc, he⟩
          by_cases hlt : i < ds.length
          · refine .inr ⟨Y.go i H (s0.trans R.hs) R.he hlt, fun H' => ∃ δ H0 acc acds rest, Rl K G δ (wipe σ vs) H0 H' ∧ Same Hi H0 ∧ H0 D = none ∧ NotOwn δ (wipe σ vs) D ∧ H' D = some (.lst acc) ∧ Reps K H0 acc acds ∧ acds.length ≤ i + 1 ∧
              compF g t f vs (ds.drop (i + 1)) δ = some (rest, δe) ∧ acds ++ rest = es, fun H' w => ⟨_, by omega, rfl, hlt, w⟩, fun x H' y => ?_⟩
            obtain ⟨d, H2, ed, gr, r⟩ := Y.yld i H x H' H0 s0 R.hs R.he hlt y
            have ed' : ds.drop i = d :: ds.drop (i + 1) := by
              rw [List.drop_eq_getElem_cons hlt]
              congr 1
              rw [List.getElem?_eq_getElem hlt] at ed
              exact Option.some.inj ed
            rw [ed'] at hc
            simp only [compF] at hc
            cases eg : g d δ with
            | none => rw [eg] at hc; cases hc
            | some δ2 =>
              rw [eg] at hc
              have hc : (tstO t δ2).bind (fun p =>
                if p.1 then (match f p.2 with
                  | .ok e δ3 => (compF g t f vs (ds.drop (i + 1)) (wipeD δ3 vs)).map fun q => (e :: q.1, q.2)
                  | _ => none)
                else compF g t f vs (ds.drop (i + 1)) (wipeD p.2 vs)) = some (rest, δe) := hc
              have R2 := R.grow gr
              have n2 : H2 D = none := by rw [gr.hn D (by rw [hacc]; simp)]; exact n0
              have hacc2 : H' D = some (.lst acc) := gr.hs _ _ hacc
              have R2h := R2.hide hacc2 n2 nw
              refine ⟨G.hide D (.lst acc), δ, H2, d, δ2, R2h, r, eg, fun σ' R3 ks kl => ?_⟩
              have hw : wipe σ' vs = wipe σ vs := wipe_eq (by rw [kl, wipe_length]) fun j hj => (ks j fun z => hj (hv j z)).trans (wipe_out hj)
              refine ⟨hw, ?_⟩
              have step : ∀ (b : Bool) (δ3 : En) (H3 H'' : Hp), Rl K (G.hide D (.lst acc)) δ3 σ' H3 H'' → Same H2 H3 → (if b then (match f δ3 with
                  | .ok e δ3 => (compF g t f vs (ds.drop (i + 1)) (wipeD δ3 vs)).map fun q => (e :: q.1, q.2)
                  | _ => none)
                else compF g t f vs (ds.drop (i + 1)) (wipeD δ3 vs)) = some (rest, δe) →
                if b = true then tM K (Wi.none W.ct) f σ' H'' (fun y H4 => ∃ acc, H4 D = some (.lst acc) ∧ acc.length < sizeLine ∧ (∃ δ H0 acc' acds rest, Rl K G δ (wipe σ vs) H0 (upd H4 D (.lst (acc ++ [y]))) ∧ Same Hi H0 ∧ H0 D = none ∧ NotOwn δ (wipe σ vs) D ∧ (upd H4 D (.lst (acc ++ [y]))) D = some (.lst acc') ∧ Reps K H0 acc' acds ∧ acds.length ≤ i + 1 ∧
                  compF g t f vs (ds.drop (i + 1)) δ = some (rest, δe) ∧ acds ++ rest = es)) else ∃ δ H0 acc acds rest, Rl K G δ (wipe σ vs) H0 H'' ∧ Same Hi H0 ∧ H0 D = none ∧ NotOwn δ (wipe σ vs) D ∧ H'' D = some (.lst acc) ∧ Reps K H0 acc acds ∧ acds.length ≤ i + 1 ∧
                  compF g t f vs (ds.drop (i + 1)) δ = some (rest, δe) ∧ acds ++ rest = es := by
                intro b δ3 H3 H'' R4 s3 hc
                cases b with
                | false =>
                  obtain ⟨R5, hu, n3, nw3⟩ := R4.unhide nDe nDf
                  show ∃ δ H0 acc acds rest, _
                  exact ⟨wipeD δ3 vs, H3, acc, acds, rest, by rw [← hw]; exact R5.wipe npin, s0.trans (gr.h0.trans s3), n3, by rw [← hw]; exact NotOwn.wipe nw3, hu, rs.mono (gr.h0.trans s3), by omega, hc, he⟩
                | true =>
                  show tM K (Wi.none W.ct) f σ' H'' _
                  have hc : (match f δ3 with
                    | .ok e δ3 => (compF g t f vs (ds.drop (i + 1)) (wipeD δ3 vs)).map fun q => (e :: q.1, q.2)
                    | _ => none) = some (rest, δe) := hc
                  refine ⟨_, δ3, H3, R4, ?_⟩
                  cases ef : f δ3 with
                  | rz c δ4 => rw [ef] at hc; cases hc
                  | bad => rw [ef] at hc; cases hc
                  | ok e1 δ4 =>
                    rw [ef] at hc
                    have hc : (compF g t f vs (ds.drop (i + 1)) (wipeD δ4 vs)).map (fun q => (e1 :: q.1, q.2)) = some (rest, δe) := hc
                    cases ec2 : compF g t f vs (ds.drop (i + 1)) (wipeD δ4 vs) with
                    | none => rw [ec2] at hc; cases hc
                    | some q2 =>
                      rw [ec2] at hc
                      cases hc
                      intro y H5 H6 R6 s6 r6
                      obtain ⟨R7, hu, n7, nw7⟩ := R6.unhide nDe nDf
                      refine ⟨acc, hu, ?_, wipeD δ4 vs, H5, acc ++ [y], acds ++ [e1], q2.1, ?_, s0.trans (gr.h0.trans (s3.trans s6)), n7, by rw [← hw]; exact NotOwn.wipe nw7, upd_same, (rs.mono (gr.h0.trans (s3.trans s6))).append (.cons r6 .nil), ?_, ec2, ?_⟩
                      · rw [rs.length]
                        exact Nat.lt_of_lt_of_le (show acds.length < 1000001 by omega) (by decide)
                      · rw [← hw]
                        exact (R7.poke n7 nDe nw7).wipe npin
                      · rw [List.length_append, List.length_singleton]; omega
                      · rw [List.append_assoc]; exact he
              cases t with
              | none => exact step true δ2 H2 H' R3 (Same.refl _) hc
              | some ft =>
                refine ⟨_, δ2, H2, R3, ?_⟩
                have hc : (tstO (some ft) δ2).bind (fun p => if p.1 then (match f p.2 with
                  | .ok e δ3 => (compF g (some ft) f vs (ds.drop (i + 1)) (wipeD δ3 vs)).map fun q => (e :: q.1, q.2)
                  | _ => none) else compF g (some ft) f vs (ds.drop (i + 1)) (wipeD p.2 vs)) = some (rest, δe) := hc
                simp only [tstO] at hc
                cases et : ft δ2 with
                | rz c δ4 => rw [et] at hc; cases hc
                | bad => rw [et] at hc; cases hc
                | ok d3 δ3 =>
                  rw [et] at hc
                  cases d3 with
                  | bl b => exact ⟨b, rfl, fun H3 H'' R4 s4 => step b δ3 H3 H'' R4 s4 hc⟩
                  | _ => cases hc
          · have ei : i = ds.length := by omega
            refine .inl ⟨Y.stop i H (s0.trans R.hs) R.he (by omega), ?_⟩
            rw [ei, List.drop_length] at hc
            have hc : some (([] : List Z.D), δ) = some (rest, δe) := hc
            cases hc
            rw [List.append_nil] at he
            subst he
            have R' := Rl.restore R1 R s0 ok
            refine q D H0 H R' (s1.trans s0) n0 nDe ⟨acc, hacc, rs⟩ fun j s ej oj hj => ?_
            have hl2 : δ1.length = δe.length := by rw [R1.len, R.len, wipe_length]
            by_cases hjv : j ∈ vs
            · rw [restore_in hl2 hjv] at ej
              have := okWipe_at ok j hjv s ej
              rw [oj] at this
              cases this
            · rw [restore_out hjv] at ej
              exact nw j s ej oj (by rw [wipe_out hjv]; exact hj)
    · exact q.elim
theorem comp_read {K : PySem.W.Frag} {W : Wi} {fi : En → RI} {g : D → En → Option En} {t : Option Den} {f : Den} {vs vg : List Nat} (hv : ∀ j ∈ vg, j ∈ vs) {σ : L2.St} {H : Hp} {Q : VK} (h : tF K W (fComp fi g t f vs) σ H Q) :
    tLc (tI K W fi) (gM K g vg) (tO K (Wi.none W.ct) t) (tM K (Wi.none W.ct) f) vs σ H Q := by
  obtain ⟨G, δ, H0, R, q⟩ := h
  exact ⟨G, δ, H0, R, comp_read' hv R q⟩
/-! ### a comprehension over a list that one owns, which stays one's own -/
def tIB (K : PySem.W.Frag) (i : Nat) : TI := fun σ H R => ∃ a vs, σ[i]? = some (some (V.ref a)) ∧ H a = some (.lst vs) ∧ R (Itl K a) H
theorem pi_own {X : Cx} {tg e : Expr} {i : Nat} (h : PE X e (tVar i)) : PI X tg e (tIB X.K i) :=
  PI_imp (pi_list h) fun σ H R ⟨a, vs, e, hv, q⟩ => ⟨_, e, a, rfl, ⟨vs, .inl (.inl hv)⟩, q⟩
def ownBK (s : Option Sl) (i : Nat) (ds : List D) (o : O) (δ2 : En) : RF := match s with
  | some .no => .ok o (δ2.set i (.ow (.lst ds)))
  | _ => .bad
def ownB (i : Nat) (ds : List D) : RF → RF
  | .ok o δ2 => ownBK δ2[i]? i ds o δ2
  | _ => .bad
def iOk (ds : List D) : En → RI := fun δ => .ok ds δ
def fCompB (i : Nat) (g : D → En → Option En) (t : Option Den) (f : Den) (vs : List Nat) : FDen := fun δ => match δ[i]? with
  | some (.ow (.lst ds)) => ownB i ds (fComp (iOk ds) g t f vs (δ.set i .no))
  | _ => fComp (iSeq (dVar i)) g t f vs δ
theorem Rl.lose {K : PySem.W.Frag} {G : Gh} {δ : En} {σ : L2.St} {H0 H : Hp} {i : Nat} (R : Rl K G δ σ H0 H) (np : ∀ a, (i, a) ∉ G.pins) : Rl K G (δ.set i .no) σ H0 H where
  hs := R.hs
  he := R.he
  hf := R.hf
  hn := R.hn
  len := by rw [List.length_set, R.len]
  sl := fun j s x a b => by
    by_cases hj : i = j
    · subst hj
      by_cases hl : i < δ.length
      · rw [List.getElem?_set_self hl] at a; cases a; trivial
      · rw [List.getElem?_eq_none (by simpa using hl)] at a; cases a
    · rw [List.getElem?_set_ne hj] at a
      exact R.sl j s x a b
  dj := fun j k s t a ne e1 e2 o1 o2 f1 f2 => by
    have hj : i ≠ j := fun z => by
      subst z
      by_cases hl : i < δ.length
      · rw [List.getElem?_set_self hl] at e1; cases e1; cases o1
      · rw [List.getElem?_eq_none (by simpa using hl)] at e1; cases e1
    have hk : i ≠ k := fun z => by
      subst z
      by_cases hl : i < δ.length
      · rw [List.getElem?_set_self hl] at e2; cases e2; cases o2
      · rw [List.getElem?_eq_none (by simpa using hl)] at e2; cases e2
    rw [List.getElem?_set_ne hj] at e1
    rw [List.getElem?_set_ne hk] at e2
    exact R.dj j k s t a ne e1 e2 o1 o2 f1 f2
  pn := fun j a hp => by
    obtain ⟨o, e1, e2⟩ := R.pn j a hp
    have hj : i ≠ j := fun z => np a (z ▸ hp)
    exact ⟨o, by rw [List.getElem?_set_ne hj]; exact e1, e2⟩
theorem comp_readB {K : PySem.W.Frag} {W : Wi} {i : Nat} {g : D → En → Option En} {t : Option Den} {f : Den} {vs vg : List Nat} (hv : ∀ j ∈ vg, j ∈ vs) {σ : L2.St} {H : Hp} {Q : VK} (h : tF K W (fCompB i g t f vs) σ H Q) :
    tLc (fun σ H R => tI K W (iSeq (dVar i)) σ H R ∨ tIB K i σ H R) (gM K g vg) (tO K (Wi.none W.ct) t) (tM K (Wi.none W.ct) f) vs σ H Q := by
  obtain ⟨G, δ, H0, R, q⟩ := h
  unfold fCompB at q
  split at q
  · rename_i ds hi
    have hil : i < σ.length := by rw [← R.len]; exact (List.getElem?_eq_some_iff.mp hi).1
    obtain ⟨a, hσ', n0, ne, ws, hw, rs⟩ := R.sl i _ _ hi (List.getElem?_eq_getElem hil)
    have hσ : σ[i]? = some (some (V.ref a)) := by rw [List.getElem?_eq_getElem hil, hσ']
    have nf : G.Hf a = none := R.hf.free n0
    have np : ∀ b, (i, b) ∉ G.pins := fun b hp => by
      obtain ⟨o, e, _⟩ := R.pn i b hp
      rw [hi] at e; cases e
    have R1 := R.lose np
    have nw : NotOwn (δ.set i .no) σ a := fun j s e o z => by
      have hj : i ≠ j := fun y => by
        subst y
        by_cases hl : i < δ.length
        · rw [List.getElem?_set_self hl] at e; cases e; cases o
        · rw [List.getElem?_eq_none (by simpa using hl)] at e; cases e
      rw [List.getElem?_set_ne hj] at e
      exact R.dj i j _ s a hj hi e rfl o hσ z
    have R2 := R1.hide hw n0 nw
    refine .inr ⟨a, ws, hσ, hw, ?_⟩
    refine comp_read' (fi := iOk ds) hv R2 (Q := Q) ?_ (Itl K a) H0 H R2 (Same.refl _) ?_
    · cases ef : fComp (iOk ds) g t f vs (δ.set i .no) with
      | bad => rw [ef] at q; exact q.elim
      | rz c δ2 => rw [ef] at q; exact q.elim
      | ok o δ2 =>
        rw [ef] at q
        have q : PoF K W G σ H0 (ownBK δ2[i]? i ds o δ2) Q := q
        cases e2 : δ2[i]? with
        | none => rw [e2] at q; exact q.elim
        | some z =>
         rw [e2] at q
         cases z with
         | ow _ => exact q.elim
         | pi _ => exact q.elim
         | va _ => exact q.elim
         | no =>
          have q : PoF K W G σ H0 (.ok o (δ2.set i (.ow (.lst ds)))) Q := q
          intro b H1 H' R3 s1 nb nbe wb nwb
          obtain ⟨R4, hu, n4, nw4⟩ := R3.unhide ne nf
          have hb : a ≠ b := fun z => by
            have : upd G.He a (.lst ws) b = none := nbe
            rw [← z, upd_same] at this
            cases this
          have R5 : Rl K G (δ2.set i (.ow (.lst ds))) (σ.set i (some (.ref a))) H1 H' := R4.set_ow n4 ne ⟨ws, hu, rs.mono s1⟩ (fun o z => by rw [e2] at z; cases z) fun j s e o z => nw4 j s e o z
          have es : σ.set i (some (.ref a)) = σ := by
            apply List.ext_getElem?
            intro k
            by_cases hk : i = k
            · subst hk
              have hl : i < σ.length := (List.getElem?_eq_some_iff.mp hσ).1
              rw [List.getElem?_set_self hl, hσ]
            · rw [List.getElem?_set_ne hk]
          rw [es] at R5
          refine q b H1 H' R5 s1 nb ?_ wb fun j s e o z => ?_
          · have : upd G.He a (.lst ws) b = none := nbe
            rw [upd_ne (fun z => hb z.symm)] at this
            exact this
          · by_cases hj : i = j
            · subst hj
              rw [hσ] at z
              cases z
              exact hb rfl
            · rw [List.getElem?_set_ne hj] at e
              exact nwb j s e o z
    · have hs : ∀ H : Hp, Same (G.hide a (.lst ws)).He H → SqL K H a ws := fun H s => .inl (.inl (s a _ upd_same))
      exact
        { go := fun k H _ s hk => by
            obtain ⟨v, e, _⟩ := rs.get (List.getElem?_eq_getElem hk)
            exact ⟨ws, v, hs H s, e⟩
          stop := fun k H _ s hk => ⟨ws, hs H s, by rw [rs.length]; exact Nat.le_of_eq hk.symm⟩
          yld := fun k H x H' Hc s0 s sh hk y => by
            obtain ⟨rfl, y⟩ := y
            obtain ⟨v, e, rv⟩ := rs.get (List.getElem?_eq_getElem hk)
            have e2 := y ws (hs _ sh)
            rw [e] at e2
            cases e2
            exact ⟨_, Hc, List.getElem?_eq_getElem hk, Gr.refl s, rv.mono s0⟩ }
  · exact .inl ⟨G, δ, H0, R, comp_read' hv R q⟩
theorem PTs_imp {X : Cx} {e : List Expr} {t t' : TT} (h : PTs X e t) (i : ∀ σ H Q, t' σ H Q → t σ H Q) : PTs X e t' := ⟨fun pins s σ H Q I q => h.run pins s σ H Q I (i σ H Q q)⟩
section
variable {X : Cx} {W : Wi} {pos : Pos}
/-- the parts of a comprehension, in its block -/
structure CompOk (X : Cx) (W : Wi) (elt tg iter : Expr) (ifs : List Expr) (scope : Scope) (own : List (Str × Nat)) (fi : En → RI) (g : D → En → Option En) (vg : List Nat) (t : Option Den) (f : Den) : Prop where
  hv : ∀ j ∈ vg, j ∈ own.map (·.2)
  it : PI X tg iter (tI X.K W fi)
  ok : BlkOk X.N X.env.scope scope own
  tg : ∀ (s : Shared) (H : Hp) (C : Addr) (cl : List (Str × Addr)) (fp : List Addr), PG (X.blk s H scope (compEnvC scope cl C X.env) fp) tg (gM X.K g vg)
  tt : ∀ (s : Shared) (H : Hp) (C : Addr) (cl : List (Str × Addr)) (fp : List Addr), PTs (X.blk s H scope (compEnvC scope cl C X.env) fp) ifs (tO X.K (Wi.none W.ct) t)
  el : ∀ (s : Shared) (H : Hp) (C : Addr) (cl : List (Str × Addr)) (fp : List Addr), PE (X.blk s H scope (compEnvC scope cl C X.env) fp) elt (tM X.K (Wi.none W.ct) f)
  fs : ∀ x, foldedSetIterable iter X.env x = pure x
theorem mf_comp {elt tg iter : Expr} {ifs : List Expr} {scope : Scope} {own : List (Str × Nat)} {fi : En → RI} {g : D → En → Option En} {vg : List Nat} {t : Option Den} {f : Den} (hc : X.calm = true) (hN : X.N.Nodup) (h : CompOk X W elt tg iter ifs scope own fi g vg t f) :
    PE X (.ListComp elt [⟨tg, iter, ifs, 0⟩] scope pos) (tF X.K W (fComp fi g t f (own.map (·.2)))) :=
  PE_imp (pe_lc hc hN h.it h.ok h.tg h.tt h.el h.fs) fun σ H Q q => comp_read h.hv q
def fCompI (o : Option Nat) (fi : En → RI) (g : D → En → Option En) (t : Option Den) (f : Den) (vs : List Nat) : FDen := match o with
  | none => fComp fi g t f vs
  | some i => fCompB i g t f vs
def wiI (K : PySem.W.Frag) (W : Wi) (o : Option Nat) (fi : En → RI) : TI := match o with
  | none => tI K W fi
  | some i => fun σ H R => tI K W (iSeq (dVar i)) σ H R ∨ tIB K i σ H R
theorem comp_readI {K : PySem.W.Frag} {W : Wi} {o : Option Nat} {fi : En → RI} {g : D → En → Option En} {t : Option Den} {f : Den} {vs vg : List Nat} (hv : ∀ j ∈ vg, j ∈ vs) {σ : L2.St} {H : Hp} {Q : VK} (h : tF K W (fCompI o fi g t f vs) σ H Q) :
    tLc (wiI K W o fi) (gM K g vg) (tO K (Wi.none W.ct) t) (tM K (Wi.none W.ct) f) vs σ H Q := by
  cases o with
  | none => exact comp_read hv h
  | some i => exact comp_readB hv h
theorem mf_compI {elt tg iter : Expr} {ifs : List Expr} {scope : Scope} {own : List (Str × Nat)} {o : Option Nat} {fi : En → RI} {g : D → En → Option En} {vg : List Nat} {t : Option Den} {f : Den} (hc : X.calm = true) (hN : X.N.Nodup) (h : CompOk X W elt tg iter ifs scope own fi g vg t f) (hx : PI X tg iter (wiI X.K W o fi)) :
    PE X (.ListComp elt [⟨tg, iter, ifs, 0⟩] scope pos) (tF X.K W (fCompI o fi g t f (own.map (·.2)))) :=
  PE_imp (pe_lc hc hN hx h.ok h.tg h.tt h.el h.fs) fun σ H Q q => comp_readI h.hv q
/-! ### a new object to a name -/
def sOwn (i : Nat) (f : FDen) : SDen := fun δ => match f δ with
  | .ok o δ1 => (match δ1[i]? with
    | some (.pi _) => .bad
    | some _ => .nx (δ1.set i (.ow o))
    | none => .bad)
  | .rz c δ1 => .rz c δ1
  | .bad => .bad
theorem asg_va {st : Stmt} {i : Nat} {t : TE} {f : Den} (h : PS X st (tAsg t (gName i))) (ht : ∀ σ H Q, tM X.K W f σ H Q → t σ H Q) : PS X st (sM X.K W (sAsg (Tg.st (.var i)) f)) :=
  PS_imp h fun D σ H ⟨G, δ, H0, R, q⟩ => ht σ H _ ⟨G, δ, H0, R, PoS.bindE q fun d δ1 v H1 H' R1 r1 h1 => by
    have h1 : PoS X.K W G H1 (match stD i d δ1 with | some δ2 => .nx δ2 | none => .bad) D := h1
    cases e : stD i d δ1 with
    | none => rw [e] at h1; exact h1.elim
    | some δ2 =>
      rw [e] at h1
      obtain ⟨rfl, np⟩ := stD_some e
      exact PoS.nx_ h1 (R1.set_va r1 np)⟩
theorem asg_ow {st : Stmt} {i : Nat} {t : TE} {f : FDen} (h : PS X st (tAsg t (gName i))) (ht : ∀ σ H Q, tF X.K W f σ H Q → t σ H Q) : PS X st (sM X.K W (sOwn i f)) :=
  PS_imp h fun D σ H ⟨G, δ, H0, R, q⟩ => ht σ H _ ⟨G, δ, H0, R, by
    unfold sOwn at q
    cases e : f δ with
    | bad => rw [e] at q; exact q
    | rz c δ1 => rw [e] at q; exact fun cls dd H1 H' R1 s x => q cls dd σ H1 H' R1 s x
    | ok o δ1 =>
      rw [e] at q
      have q : PoS X.K W G H0 (match δ1[i]? with
        | some (.pi _) => .bad
        | some _ => .nx (δ1.set i (.ow o))
        | none => .bad) D := q
      intro a H1 H' R1 s1 n0 ne w nw
      split at q
      · exact q.elim
      · rename_i s hs e2
        exact q _ H1 H' (R1.set_ow n0 ne w (fun o z => by rw [z] at e2; cases e2; exact hs _ rfl) nw) s1
      · exact q.elim⟩
end
end Z

namespace Z
open PySem PySem.Spec PyProof.Rows L2
section
variable {X : Cx} {W : Wi} {pos : Pos}
/-! ### what the frame owns, written and read -/
def ownAt (δ : En) (i : Nat) : Option O :=
  match δ[i]? with
  | some (.ow o) => some o
  | some (.pi o) => some o
  | _ => none
def setOwn (δ : En) (i : Nat) (o : O) : En :=
  match δ[i]? with
  | some (.ow _) => δ.set i (.ow o)
  | some (.pi _) => δ.set i (.pi o)
  | _ => δ
theorem Rl.owned {K : PySem.W.Frag} {G : Gh} {δ : En} {σ : L2.St} {H0 H : Hp} (R : Rl K G δ σ H0 H) {i : Nat} {o : O} (h : ownAt δ i = some o) :
    ∃ a : Addr, σ[i]? = some (some (V.ref a)) ∧ H0 a = none ∧ G.He a = none ∧ OwnAt K H0 H a o := by
  unfold ownAt at h
  split at h
  · rename_i e; cases h; exact R.own_at e
  · rename_i e; cases h; exact R.pin_at e
  · cases h
theorem Rl.wrote {K : PySem.W.Frag} {G : Gh} {δ : En} {σ : L2.St} {H0 H : Hp} (R : Rl K G δ σ H0 H) {i : Nat} {o o' : O} {a : Addr} {u : HO} (h : ownAt δ i = some o) (hσ : σ[i]? = some (some (V.ref a))) (n0 : H0 a = none) (ne : G.He a = none) (w : OwnAt K H0 (upd H a u) a o') :
    Rl K G (setOwn δ i o') σ H0 (upd H a u) := by
  unfold ownAt at h
  unfold setOwn
  split at h
  · rename_i e
    first
    | exact R.write e rfl rfl hσ n0 ne w
    | (rw [e]; exact R.write e rfl rfl hσ n0 ne w)
  · rename_i e
    first
    | exact R.write e rfl rfl hσ n0 ne w
    | (rw [e]; exact R.write e rfl rfl hσ n0 ne w)
  · cases h
/-- name.append(e) -/
def sApp (i : Nat) (f : Den) : SDen := fun δ => match ownAt δ i with
  | some (.lst _) => bindES (f δ) fun d δ1 => match ownAt δ1 i with
    | some (.lst ds) => if ds.length < 1000000 then .nx (setOwn δ1 i (.lst (ds ++ [d]))) else .bad
    | _ => .bad
  | _ => .bad
theorem ms_app {i : Nat} {x : Str} {e : Expr} {f : Den} {p apos cpos : Pos} (hx : PE X (.Name x p) (tVar i)) (he : PE X e (tM X.K W f))
    (hfew : ((backTo cpos (starEach [e] X.env)).all (fun x => !x.1) && (backToKw cpos (keywordEach [] X.env)).all (fun x => x.1.isSome)
      && decide ([e].length + ([] : List Keyword).length + (if ([] : List Keyword).isEmpty then 0 else 1) < 30)) = true)
    (hline : (apos.endLine == cpos.line) = true) (hs : starEach [e] X.env = [(false, eval e X.env)]) : PS X (.Expr (.Call (.Attribute (.Name x p) "append" apos) [e] [] cpos) pos) (sM X.K W (sApp i f)) :=
  PS_imp (ps_expr (pe_bm PySem.F.plainAttrs_list PySem.F.slot_list_append PySem.F.type_list_append mt_append hx (pa_cons he pa_nil hs) rfl hfew hline hs rfl) rfl) fun D σ H ⟨G, δ, H0, R, q⟩ => by
    unfold sApp at q
    split at q
    · rename_i ds0 e0
      obtain ⟨a, hσ, n0, ne, vs, hv, rs⟩ := R.owned e0
      refine ⟨.ref a, hσ, .inl ⟨rfl, vs, .inl (.inl hv)⟩, G, δ, H0, R, PoS.bindE q fun d δ1 v H1 H' R1 r1 h1 => ?_⟩
      split at h1
      · rename_i ds e1
        split at h1
        · rename_i hl
          obtain ⟨a1, hσ1, n1, ne1, ws, hw, rs1⟩ := R1.owned e1
          rw [hσ] at hσ1
          cases hσ1
          exact ⟨a, ws, v, rfl, rfl, hw, by rw [rs1.length]; exact Nat.lt_of_lt_of_le hl (by decide), PoS.nx_ h1 (R1.wrote e1 hσ n1 ne1 ⟨_, upd_same, rs1.append (.cons r1 .nil)⟩)⟩
        · exact h1.elim
      · exact h1.elim
    · exact q.elim
/-- name.extend(what is new) -/
def sExt (i : Nat) (f : FDen) : SDen := fun δ => match ownAt δ i with
  | some (.lst _) => (match f δ with
    | .ok (.lst zs) δ1 => (match ownAt δ1 i with
      | some (.lst ds) => if ds.length + zs.length ≤ 1000000 then .nx (setOwn δ1 i (.lst (ds ++ zs))) else .bad
      | _ => .bad)
    | .ok _ _ => .bad
    | .rz c δ1 => .rz c δ1
    | .bad => .bad)
  | _ => .bad
theorem Reps.app {K : PySem.W.Frag} {H : Hp} : ∀ {vs ws : List V} {ds es : List D}, Reps K H vs ds → Reps K H ws es → Reps K H (vs ++ ws) (ds ++ es)
  | _, _, _, _, .nil, r => r
  | _, _, _, _, .cons h t, r => .cons h (Reps.app t r)
theorem ms_ext {i : Nat} {x : Str} {e : Expr} {f : FDen} {p apos cpos : Pos} (hx : PE X (.Name x p) (tVar i)) (he : PE X e (tF X.K W f))
    (hfew : ((backTo cpos (starEach [e] X.env)).all (fun x => !x.1) && (backToKw cpos (keywordEach [] X.env)).all (fun x => x.1.isSome)
      && decide ([e].length + ([] : List Keyword).length + (if ([] : List Keyword).isEmpty then 0 else 1) < 30)) = true)
    (hline : (apos.endLine == cpos.line) = true) (hs : starEach [e] X.env = [(false, eval e X.env)]) : PS X (.Expr (.Call (.Attribute (.Name x p) "extend" apos) [e] [] cpos) pos) (sM X.K W (sExt i f)) :=
  PS_imp (ps_expr (pe_bm PySem.F.plainAttrs_list PySem.F.slot_list_extend PySem.F.type_list_extend mt_extend hx (pa_cons he pa_nil hs) rfl hfew hline hs rfl) rfl) fun D σ H ⟨G, δ, H0, R, q⟩ => by
    unfold sExt at q
    split at q
    · rename_i ds0 e0
      obtain ⟨a, hσ, n0, ne, vs, hv, rs⟩ := R.owned e0
      refine ⟨.ref a, hσ, .inl ⟨rfl, vs, .inl (.inl hv)⟩, G, δ, H0, R, ?_⟩
      cases e : f δ with
      | bad => rw [e] at q; exact q.elim
      | rz c δ1 => rw [e] at q; exact fun cls dd H1 H' R1 s x => q cls dd σ H1 H' R1 s x
      | ok o δ1 =>
        rw [e] at q
        intro b H1 H' R1 s1 nb neb w nw
        cases o with
        | dic ks ds => exact q.elim
        | lst zs =>
          have q : PoS X.K W G H0 (match ownAt δ1 i with
            | some (.lst ds) => if ds.length + zs.length ≤ 1000000 then RS.nx (setOwn δ1 i (.lst (ds ++ zs))) else .bad
            | _ => .bad) D := q
          split at q
          · rename_i ds e1
            split at q
            · rename_i hl
              obtain ⟨a1, hσ1, n1, ne1, ws, hw, rs1⟩ := R1.owned e1
              rw [hσ] at hσ1
              cases hσ1
              obtain ⟨us, hu, rz⟩ := w
              exact ⟨a, b, ws, us, rfl, rfl, hw, hu, by rw [rs1.length, rz.length]; exact Nat.le_trans hl (by decide), q _ H1 _ (R1.wrote e1 hσ n1 ne1 ⟨_, upd_same, Reps.app rs1 rz⟩) s1⟩
            · exact q.elim
          · exact q.elim
    · exact q.elim
/-- name[ix] = e, the name's list owned -/
def subK (i : Nat) (d k : D) (δ2 : En) : RS :=
  match k, ownAt δ2 i with
  | .int k, some (.lst ds) => (match ixN ds.length k with
    | some j => .nx (setOwn δ2 i (.lst (ds.set j d)))
    | none => .bad)
  | _, _ => .bad
def sSub (i : Nat) (fi f : Den) : SDen := fun δ => bindES (f δ) fun d δ1 => match ownAt δ1 i with
  | some (.lst _) => bindES (fi δ1) fun k δ2 => subK i d k δ2
  | _ => .bad
theorem ms_sub {i : Nat} {x : Str} {ix e : Expr} {fi f : Den} {p spos : Pos} (hx : PE X (.Name x p) (tVar i)) (hi : PE X ix (tM X.K W fi)) (he : PE X e (tM X.K W f))
    (hs : swapsWithSole [.Subscript (.Name x p) ix spos] e pos.line X.env = pure false) (hw : swappedStores [.Subscript (.Name x p) ix spos] e X.env = pure none)
    (ha : ∀ v, assign (.Subscript (.Name x p) ix spos) X.env v = (do
      let ov ← holding [v] (eval (.Name x p) X.env)
      let iv ← holding [v, ov] (eval ix X.env)
      standAt spos
      holding [v, ov, iv] (setItem ov iv v)
      release [v, ov, iv] [])) :
    PS X (.Assign [.Subscript (.Name x p) ix spos] e pos) (sM X.K W (sSub i fi f)) :=
  PS_imp (ps_asg he (pg_sub hx hi set_list ha) hs hw rfl) fun D σ H ⟨G, δ, H0, R, q⟩ => ⟨G, δ, H0, R, PoS.bindE q fun d δ1 v H1 H' R1 r1 h1 => by
    split at h1
    · rename_i ds0 e0
      obtain ⟨a, hσ, n0, ne, vs, hv, rs⟩ := R1.owned e0
      refine ⟨.ref a, hσ, G, δ1, H1, R1, ?_⟩
      cases ef : fi δ1 with
      | bad => rw [ef] at h1; exact h1.elim
      | rz c δ2 => rw [ef] at h1; exact fun cls dd H2 H'' R2 s x => h1 cls dd σ H2 H'' R2 s x
      | ok k δ2 =>
        rw [ef] at h1
        intro w H2 H'' R2 s2 r2
        replace h1 : PoS X.K W G H1 (subK i d k δ2) D := h1
        unfold subK at h1
        split at h1
        · rename_i k' ds e1
          obtain ⟨a1, hσ1, n1, ne1, ws, hw, rs1⟩ := R2.owned e1
          rw [hσ] at hσ1
          cases hσ1
          cases r2
          split at h1
          · rename_i j ej
            exact ⟨a, ws, k', j, rfl, rfl, hw, by rw [rs1.length]; exact ej, h1 σ H2 _ (R2.wrote e1 hσ n1 ne1 ⟨_, upd_same, rs1.set (r1.mono s2) j⟩) s2⟩
          · exact h1.elim
        · exact h1.elim
    · exact h1.elim⟩
/-- what a name holds, as it stands -/
def peek (δ : En) (i : Nat) : Option D :=
  match δ[i]? with
  | some (.va d) => some d
  | some (.ow o) => some (ownD o)
  | some (.pi o) => some (ownD o)
  | _ => none
theorem Rl.peek {K : PySem.W.Frag} {G : Gh} {δ : En} {σ : L2.St} {H0 H : Hp} (R : Rl K G δ σ H0 H) {i : Nat} {d : D} (h : peek δ i = some d) :
    ∃ v, σ[i]? = some (some v) ∧ Rep K H v d := by
  have own : ∀ {a : Addr} {o : O}, OwnAt K H0 H a o → Rep K H (.ref a) (ownD o) := fun {a o} w => by
    cases o with
    | lst ds => obtain ⟨vs, hv, rs⟩ := w; exact .lst (.inl (.inl hv)) (rs.mono R.hs)
    | dic ks ds => obtain ⟨vs, hv, l, rs⟩ := w; exact .dic hv rfl l (rs.mono R.hs)
  unfold Z.peek at h
  split at h
  · rename_i e; cases h
    obtain ⟨v, h1, r⟩ := R.va_at e
    exact ⟨v, h1, r.mono R.hs⟩
  · rename_i e; cases h
    obtain ⟨a, h1, _, _, w⟩ := R.own_at e
    exact ⟨_, h1, own w⟩
  · rename_i e; cases h
    obtain ⟨a, h1, _, _, w⟩ := R.pin_at e
    exact ⟨_, h1, own w⟩
  · cases h
/-- name[ix], the name's list owned or not -/
def ixK (i : Nat) (k : D) (δ1 : En) : RE :=
  match δ1[i]? with
  | some (.va d) => ofO (idxD d k) δ1
  | some (.ow (.lst ds)) => (match k with
    | .int k => ofO (atI ds k) δ1
    | _ => .bad)
  | some (.pi (.lst ds)) => (match k with
    | .int k => ofO (atI ds k) δ1
    | _ => .bad)
  | _ => .bad
def dIxO (i : Nat) (fi : Den) : Den := fun δ => match peek δ i with
  | some _ => bindE (fi δ) fun k δ1 => ixK i k δ1
  | none => .bad
theorem me_ixO {i : Nat} {x : Str} {ix : Expr} {fi : Den} {p : Pos} (hx : PE X (.Name x p) (tVar i)) (hi : PE X ix (tM X.K W fi)) (hs : PlainIx ix) : PE X (.Subscript (.Name x p) ix pos) (tM X.K W (dIxO i fi)) :=
  PE_imp (pe_ix (ix_list.or ix_M) hx hi hs) fun σ H Q ⟨G, δ, H0, R, q⟩ => by
    unfold dIxO at q
    split at q
    · rename_i d0 e0
      obtain ⟨v0, hσ, _⟩ := R.peek e0
      refine ⟨v0, hσ, G, δ, H0, R, PoE.bind q fun k δ1 v H1 H' R1 s1 r1 h1 => ?_⟩
      unfold ixK at h1
      split at h1
      · rename_i d e1
        obtain ⟨v1, h2, rv⟩ := R1.va_at e1
        rw [hσ] at h2; cases h2
        obtain ⟨z, hz, h3⟩ := ofO_some h1
        exact .inr ⟨H1, d, k, z, R1.hs, rv, r1, hz, fun u H3 H'' g r => h3.new R1 g r⟩
      · rename_i ds e1
        obtain ⟨a1, hσ1, n1, ne1, ws, hw, rs1⟩ := R1.own_at e1
        rw [hσ] at hσ1; cases hσ1
        split at h1
        · cases r1
          obtain ⟨z, hz, h3⟩ := ofO_some h1
          obtain ⟨w, hw2, rw2⟩ := reps_at rs1 hz
          exact .inl ⟨a1, ws, _, w, rfl, rfl, .inl (.inl hw), hw2, h3.val R1 rw2⟩
        · exact h1.elim
      · rename_i ds e1
        obtain ⟨a1, hσ1, n1, ne1, ws, hw, rs1⟩ := R1.pin_at e1
        rw [hσ] at hσ1; cases hσ1
        split at h1
        · cases r1
          obtain ⟨z, hz, h3⟩ := ofO_some h1
          obtain ⟨w, hw2, rw2⟩ := reps_at rs1 hz
          exact .inl ⟨a1, ws, _, w, rfl, rfl, .inl (.inl hw), hw2, h3.val R1 rw2⟩
        · exact h1.elim
      · exact h1.elim
    · exact q.elim
/-- len(name), the name's list owned or not -/
def dLenO (i : Nat) : Den := fun δ => match peek δ i with
  | some d => ofO (lenL [d]) δ
  | none => .bad
theorem scal_grow {K : PySem.W.Frag} {G : Gh} {δ : En} {σ : L2.St} {H0 H H1 H' : Hp} (R : Rl K G δ σ H0 H) (g : Gr H H H1 H') : Rl K G δ σ H0 H' :=
  R.grow ⟨g.hs, Same.refl _, R.hs.trans g.hs, fun _ _ => rfl⟩
theorem me_lenO {i : Nat} {x : Str} {p p2 : Pos} (hc : X.calm = true) (hx : PE X (.Name x p) (tVar i)) (hg : Gl X "len") (hm : X.mg "len" = none) : PE X (.Call (.Name "len" p2) [.Name x p] [] pos) (tM X.K W (dLenO i)) :=
  PE_imp (pe_callB (Bi.call .len hc) hg hm PySem.boot_len (pa_cons hx pa_nil rfl)) fun σ H Q ⟨G, δ, H0, R, q⟩ => by
    unfold dLenO at q
    split at q
    · rename_i d e
      obtain ⟨v, hσ, r⟩ := R.peek e
      obtain ⟨z, hz, h3⟩ := ofO_some q
      refine ⟨v, hσ, H, [d], z, Same.refl _, .cons r .nil, hz, fun u H1 H' g r2 => ?_⟩
      have e2 : ∃ n : Int, z = .int n := by
        unfold lenL at hz
        split at hz
        · cases hz; exact ⟨_, rfl⟩
        · cases hz; exact ⟨_, rfl⟩
        · split at hz
          · cases hz; exact ⟨_, rfl⟩
          · cases hz
        · cases hz
      obtain ⟨n, rfl⟩ := e2
      cases r2
      exact h3.val (scal_grow R g) (.int n)
    · exact q.elim
/-- a comparison of what a name holds, as it stands -/
def bK (g : D → D → Option D) (i : Nat) (y : D) (δ1 : En) : RE :=
  match peek δ1 i with
  | some d => (match g d y with
    | some (.bl b) => .ok (.bl b) δ1
    | _ => .bad)
  | none => .bad
def dCmpB (g : D → D → Option D) (i : Nat) (fb : Den) : Den := fun δ => match peek δ i with
  | some _ => bindE (fb δ) fun y δ1 => bK g i y δ1
  | none => .bad
theorem bK_read {g : D → D → Option D} {i : Nat} {y : D} {δ1 : En} {G : Gh} {σ : L2.St} {H1 H' : Hp} {v w : V} {Q : VK} (R1 : Rl X.K G δ1 σ H1 H') (hσ : σ[i]? = some (some v)) (r1 : Rep X.K H1 w y) (h1 : PoE X.K W G σ H1 (bK g i y δ1) Q) : rM X.K g v w H' Q := by
  unfold bK at h1
  split at h1
  · rename_i d e
    obtain ⟨v1, h2, rv⟩ := R1.peek e
    rw [hσ] at h2; cases h2
    split at h1
    · rename_i b hz
      refine ⟨H', d, y, .bl b, Same.refl _, rv, r1.mono R1.hs, hz, fun u H3 H'' g r => ?_⟩
      cases r
      exact h1.val (scal_grow R1 g) (.bl b)
    · exact h1.elim
  · exact h1.elim
theorem me_cmpB {op : CmpOp} {g : D → D → Option D} {i : Nat} {x : Str} {p : Pos} {b : Expr} {fb : Den} (ho : OpR X (compareOp op) (rM X.K g)) (hx : PE X (.Name x p) (tVar i)) (hb : PE X b (tM X.K W fb)) (hm : behindInMarks op b = false) : PE X (.Compare (.Name x p) [op] [b] pos) (tM X.K W (dCmpB g i fb)) :=
  PE_imp (pe_cmpR ho hx hb hm) fun σ H Q ⟨G, δ, H0, R, q⟩ => by
    unfold dCmpB at q
    split at q
    · rename_i d0 e0
      obtain ⟨v0, hσ, _⟩ := R.peek e0
      exact ⟨v0, hσ, G, δ, H0, R, PoE.bind q fun y δ1 w H1 H' R1 s1 r1 h1 => bK_read R1 hσ r1 h1⟩
    · exact q.elim
theorem mt_cmpB {op : CmpOp} {g : D → D → Option D} {i : Nat} {x : Str} {p : Pos} {b : Expr} {fb : Den} (ho : OpR X (compareOp op) (rM X.K g)) (hx : PE X (.Name x p) (tVar i)) (hb : PE X b (tM X.K W fb)) (hm : behindInMarks op b = false) : PT X (.Compare (.Name x p) [op] [b] pos) (tT X.K W (dCmpB g i fb)) :=
  PT_imp (pt_cmpR ho hx hb hm) fun σ H Q ⟨G, δ, H0, R, q⟩ => by
    unfold dCmpB at q
    split at q
    · rename_i d0 e0
      obtain ⟨v0, hσ, _⟩ := R.peek e0
      exact ⟨v0, hσ, G, δ, H0, R, PoE.bind q.toE fun y δ1 w H1 H' R1 s1 r1 h1 => bK_read R1 hσ r1 h1⟩
    · exact q.elim
/-- a, b = e, f with two plain names -/
def sPar (i j : Nat) (fs : List Den) : SDen := fun δ => match dArgs fs δ with
  | .ok [d, e] δ1 => (match stD i d δ1 with
    | some δ2 => (match stD j e δ2 with
      | some δ3 => .nx δ3
      | none => .bad)
    | none => .bad)
  | .rz c δ1 => .rz c δ1
  | _ => .bad
theorem ms_par {st : Stmt} {i j : Nat} {fs : List Den} {es : List Expr} (h : PS X st (tPar i j (tA X.K W (dArgs fs)))) : PS X st (sM X.K W (sPar i j fs)) :=
  PS_imp h fun D σ H ⟨G, δ, H0, R, q⟩ => ⟨G, δ, H0, R, by
    unfold sPar at q
    cases e : dArgs fs δ with
    | bad => rw [e] at q; exact q
    | rz c δ1 => rw [e] at q; exact fun cls dd H1 H' R1 s x => q cls dd σ H1 H' R1 s x
    | ok ds δ1 =>
      rw [e] at q
      intro vs H1 H' R1 s1 r1
      match ds, r1, q with
      | [d1, d2], r1, q =>
        obtain ⟨v, w, rfl, rv, rw'⟩ := reps2 r1
        have q : PoS X.K W G H0 (match stD i d1 δ1 with
          | some δ2 => (match stD j d2 δ2 with
            | some δ3 => .nx δ3
            | none => .bad)
          | none => .bad) D := q
        cases e1 : stD i d1 δ1 with
        | none => rw [e1] at q; exact q.elim
        | some δ2 =>
          rw [e1] at q
          have q : PoS X.K W G H0 (match stD j d2 δ2 with
            | some δ3 => .nx δ3
            | none => .bad) D := q
          cases e2 : stD j d2 δ2 with
          | none => rw [e2] at q; exact q.elim
          | some δ3 =>
            rw [e2] at q
            obtain ⟨rfl, np⟩ := stD_some e1
            obtain ⟨rfl, np2⟩ := stD_some e2
            exact ⟨v, w, rfl, q _ H1 H' ((R1.set_va rv np).set_va rw' np2) s1⟩
      | [], r1, q => exact q.elim
      | [_], r1, q => exact q.elim
      | _ :: _ :: _ :: _, r1, q => exact q.elim⟩
/-- x += e, x -= e of whole numbers -/
def augD (o : Bool) : D → D → Option D
  | .int i, .int j => some (.int (if o then i + j else i - j))
  | _, _ => none
def sAug (i : Nat) (o : Bool) (f : Den) : SDen := fun δ => match δ[i]? with
  | some (.va x) => bindES (f δ) fun d δ1 => match augD o x d with
    | some z => (match stD i z δ1 with
      | some δ2 => .nx δ2
      | none => .bad)
    | none => .bad
  | _ => .bad
def augOp (o : Bool) : Operator := if o then .Add else .Sub
theorem ms_aug {i : Nat} {x : Str} {e : Expr} {f : Den} {p : Pos} (o : Bool) (hN : X.N.Nodup) (hi : X.N[i]? = some x) (hx : Loc X.env.scope x) (hf : X.fn x = true ∨ X.env.scope.names.lookup x = some .local) (he : PE X e (tM X.K W f)) : PS X (.AugAssign (.Name x p) (augOp o) e pos) (sM X.K W (sAug i o f)) := by
  have ip : PIp X (augOp o) (ipI fun i j => if o then i + j else i - j) := by
    cases o with
    | true => exact ip_add
    | false => exact ip_sub
  refine PS_imp (ps_aug hN hi hx he ip hf) fun D σ H ⟨G, δ, H0, R, q⟩ => ?_
  unfold sAug at q
  split at q
  · rename_i d0 e0
    obtain ⟨v0, hv0, r0⟩ := R.va_at e0
    refine ⟨v0, hv0, G, δ, H0, R, ?_⟩
    cases ef : f δ with
    | bad => rw [ef] at q; exact q.elim
    | rz c δ1 => rw [ef] at q; exact fun cls dd H1 H' R1 s x => q cls dd σ H1 H' R1 s x
    | ok d δ1 =>
      rw [ef] at q
      intro v H1 H' R1 s1 r1
      have q : PoS X.K W G H0 (match augD o d0 d with
        | some z => (match stD i z δ1 with
          | some δ2 => .nx δ2
          | none => .bad)
        | none => .bad) D := q
      cases ea : augD o d0 d with
      | none => rw [ea] at q; exact q.elim
      | some z =>
        rw [ea] at q
        have q : PoS X.K W G H0 (match stD i z δ1 with
          | some δ2 => .nx δ2
          | none => .bad) D := q
        cases e2 : stD i z δ1 with
        | none => rw [e2] at q; exact q.elim
        | some δ2 =>
          rw [e2] at q
          obtain ⟨rfl, np⟩ := stD_some e2
          unfold augD at ea
          split at ea
          · cases ea
            cases r0
            cases r1
            exact ⟨_, _, rfl, rfl, q _ H1 H' (R1.set_va (.int _) np) s1⟩
          · cases ea
  · exact q.elim
end
end Z

namespace ZX
open PySem PySem.Spec PyProof.Rows L2
/-! ### a list's slice with a step -/
def pickG {α : Type} (xs : List α) (lo hi st : Option Int) : List α := (sliceRange (sliceBounds lo hi st xs.length).1 (sliceBounds lo hi st xs.length).2.1 (sliceBounds lo hi st xs.length).2.2).filterMap (xs[·]?)
theorem pick_eq (its : List Value) (lo hi st : Option Int) : slicePick its.toArray lo hi st = (pickG its lo hi st).toArray := by
  unfold slicePick pickG
  rw [List.size_toArray]
  have e : (fun i : Nat => its.toArray[i]?) = fun i : Nat => its[i]? := funext fun i => by simp
  rw [e]
theorem vals_fm {xs : List V} {us : List Value} (r : Vals xs us) : ∀ is : List Nat, Vals (is.filterMap (xs[·]?)) (is.filterMap (us[·]?))
  | [] => .nil
  | i :: is => by
    rw [List.filterMap_cons, List.filterMap_cons]
    cases hx : xs[i]? with
    | none =>
      have : us[i]? = none := by
        rw [List.getElem?_eq_none_iff] at hx ⊢
        rw [← r.length]; exact hx
      rw [this]
      exact vals_fm r is
    | some x =>
      obtain ⟨u, hu, ru⟩ := r.get hx
      rw [hu]
      exact .cons ru (vals_fm r is)
theorem vals_pick {xs : List V} {us : List Value} (r : Vals xs us) (lo hi st : Option Int) : Vals (pickG xs lo hi st) (pickG us lo hi st) := by
  unfold pickG
  rw [r.length]
  exact vals_fm r _
theorem pick_len {α : Type} (xs : List α) (lo hi st : Option Int) : (pickG xs lo hi st).length ≤ (sliceRange (sliceBounds lo hi st xs.length).1 (sliceBounds lo hi st xs.length).2.1 (sliceBounds lo hi st xs.length).2.2).length := List.length_filterMap_le _ _
def tStL (K : PySem.W.Frag) (te : TE) (tl th ts : L2.St → Hp → (Option Int → Hp → Prop) → Prop) : TE := fun σ H Q => te σ H fun x H1 => tl σ H1 fun l H2 => th σ H2 fun u H3 => ts σ H3 fun c H4 => ∃ a xs, x = .ref a ∧ SqL K H4 a xs ∧ c ≠ some 0 ∧ (pickG xs l u c).length ≤ sizeLine ∧ ∀ p, H4 p = none → Q (.ref p) (upd H4 p (.lst (pickG xs l u c)))
theorem pe_stepL {X : Cx} {e : Expr} {te : TE} {lo hi : Option Expr} {st : Expr} {tl th ts : L2.St → Hp → (Option Int → Hp → Prop) → Prop} {p3 pos : Pos} (he : PE X e te) (hl : PO X lo tl) (hh : PO X hi th) (hst : PO X (some st) ts) : PE X (.Subscript e (.Slice lo hi (some st) p3) pos) (tStL X.K te tl th ts) := by
  refine ⟨fun pins s σ H Q I h => ?_⟩
  refine Subscript_ (thn (he.run pins s σ H _ I h) fun v s1 ⟨x, H1, I1, r1, q1⟩ => ?_)
  refine wpAny_Slice (thn (hl.run pins s1 σ H1 _ I1 q1) fun vl s2 ⟨l, H2, I2, pl, q2⟩ => ?_)
  refine thn (hh.run pins s2 σ H2 _ I2 q2) fun vu s3 ⟨u, H3, I3, pu, q3⟩ => ?_
  refine thn (hst.run pins s3 σ H3 _ I3 q3) fun vs s4 ⟨o, H4, I4, ps, q4⟩ => ?_
  obtain ⟨a, xs, ex, hx, c0, hz', q⟩ := q4
  subst ex
  cases r1
  have I5 : Inv X pins σ H4 { s4 with heap := s4.heap.push { cls := .type "slice", data := .fields #[vl, vu, vs] } } := I4.kept (t' := s4.toks) fun b ob q => Heap.get?_push_of_some _ q
  obtain ⟨its, r, ht, hz⟩ := I5.list hx
  have hlen := r.length
  show wpAny (model X.prog X.w) X.A (subscriptTail e (.Slice lo hi (some st) p3) (.ref a) (.ref s4.heap.objs.size)) (EP X pins σ Q) X.xe { s4 with heap := s4.heap.push { cls := .type "slice", data := .fields #[vl, vu, vs] } }
  refine tail_any (ops := [.ref a, .ref s4.heap.objs.size]) ht.isList.typeIs (PySem.slot_list_getitem.lookup) ?_ (by with_unfolding_all rfl)
  refine wpAny_getItem_list_slice ht.isList (Heap.IsSliceOf.new _ vl vu vs) pl pu ps c0 ?_ (by rw [List.size_toArray]; omega)
  rw [pick_eq]
  refine ⟨.ref _, _, I5.laid (t' := s4.toks) (o := .lst (pickG xs l u o)) (fun b ob q => Heap.get?_push_of_some _ q) (Nat.le_refl _) ?_, rfl, q _ (I5.hok.fresh (Nat.le_refl _))⟩
  exact ⟨hz', _, 0, vals_pick r l u o, Heap.get?_push_size _ rfl⟩
/-! ### a tuple's slice with a step, too -/
def pickT {α : Type} (xs : List α) (lo hi : Option Int) (c : Int) : List α :=
  (List.range (Builtin.Slice.slicePlaces (Builtin.Slice.sliceAdjust lo hi c (xs.length : Int)).1 (Builtin.Slice.sliceAdjust lo hi c (xs.length : Int)).2 c)).filterMap fun (m : Nat) => xs[((Builtin.Slice.sliceAdjust lo hi c (xs.length : Int)).1 + (m : Int) * c).toNat]?
section
variable {prog : Program} {w : World} {A : Around} {E : Value → Shared → Prop} {s : Shared}
theorem sliceApplied_st {sl : Addr} {vl vu vs : Value} {lo hi : Option Int} {c : Int} {n : Nat} {Q : Int × Int × Nat → Shared → Prop} (hs : s.heap.IsSliceOf sl vl vu vs) (pl : IsPart vl lo) (pu : IsPart vu hi) (ps : IsPart vs (some c)) (h0 : c ≠ 0)
    (h : Q ((Builtin.Slice.sliceAdjust lo hi c (n : Int)).1, c, Builtin.Slice.slicePlaces (Builtin.Slice.sliceAdjust lo hi c (n : Int)).1 (Builtin.Slice.sliceAdjust lo hi c (n : Int)).2 c) s) : wpAny (model prog w) A (Builtin.Slice.sliceApplied (.ref sl) (pure (n : Int))) Q E s := by
  obtain ⟨os, hos, hcs, hds⟩ := id hs
  unfold Builtin.Slice.sliceApplied Builtin.Slice.sliceFields
  refine wpAny_bind (wpAny_bind (wpAny_field hos hds (x := vl) rfl (wpAny_bind (wpAny_field hos hds (x := vu) rfl (wpAny_bind (wpAny_field hos hds (x := vs) rfl (wpAny_pure ?_)))))))
  refine wpAny_bind (HT.slicePart_ ps ?_)
  have hc : ¬ ((c == 0) = true) := by simpa using h0
  show wpAny _ _ (if (c == 0) = true then _ else _) _ _ s
  rw [if_neg hc]
  exact wpAny_bind (HT.slicePart_ pl (wpAny_bind (HT.slicePart_ pu (wpAny_bind (wpAny_pure (wpAny_pure h))))))
theorem pickT_eq (items : Array Value) (lo hi : Option Int) (c : Int) : ((List.range (Builtin.Slice.slicePlaces (Builtin.Slice.sliceAdjust lo hi c (items.size : Int)).1 (Builtin.Slice.sliceAdjust lo hi c (items.size : Int)).2 c)).filterMap fun (m : Nat) => items[((Builtin.Slice.sliceAdjust lo hi c (items.size : Int)).1 + (m : Int) * c).toNat]?).toArray = (pickT items.toList lo hi c).toArray := by
  unfold pickT
  rw [Array.length_toList]
  have e : (fun (m : Nat) => items[((Builtin.Slice.sliceAdjust lo hi c (items.size : Int)).1 + (m : Int) * c).toNat]?) = fun (m : Nat) => items.toList[((Builtin.Slice.sliceAdjust lo hi c (items.size : Int)).1 + (m : Int) * c).toNat]? := funext fun m => by simp
  rw [e]
theorem getItem_tuple_step {t sl : Addr} {items : Array Value} {vl vu vs : Value} {lo hi : Option Int} {c : Int} {Q : Value → Shared → Prop} (ht : IsTup s.heap t items) (hs : s.heap.IsSliceOf sl vl vu vs) (pl : IsPart vl lo) (pu : IsPart vu hi) (ps : IsPart vs (some c)) (h0 : c ≠ 0) (h1 : c ≠ 1)
    (h : Q (.ref s.heap.objs.size) { s with heap := s.heap.push { cls := .type "tuple", data := .seq (pickT items.toList lo hi c).toArray } })
    (hsz : (pickT items.toList lo hi c).length ≤ sizeLine) : wpAny (model prog w) A (getItem (.ref t) (.ref sl)) Q E s := by
  have htake : sizeOk (.seq (pickT items.toList lo hi c).toArray) := by
    show (pickT items.toList lo hi c).toArray.size ≤ sizeLine
    rw [List.size_toArray]
    exact hsz
  obtain ⟨os, hos, hcs, hds⟩ := id hs
  have hTs : s.TypeIs (.ref sl) "slice" := ⟨os, hos, hcs⟩
  unfold getItem
  try with_reducible refine wpAny_holding ?_
  first | refine wpAny_bind (wpAny_pure ?_) | skip
  refine wpAny_bind (wpAny_sequenceKey ht.typeIs (by decide) ?_)
  refine wpAny_bind (wpAny_callSpecial?_slot (name := Str.ofString "__getitem__") ht.typeIs PyProof.Rows.slot_tuple_getitem
    (wpAny_call_entry PyProof.Rows.slot_tuple_getitem ht.typeIs entry_tuple_getitem ?_ (args_tuple_getitem _ _)))
  show wpAny _ _ (Builtin.Tuple.tupleItemsOf (.ref t) >>= _) _ _ s
  refine wpAny_bind (tupleItemsOf_ ht ?_)
  refine wpAny_bind (wpAny_typeOf hTs ?_)
  rw [if_pos (by decide)]
  refine wpAny_bind (sliceApplied_st hs pl pu ps h0 ?_)
  have hno : ∀ x : Bool, ∀ y : Bool, ¬ ((x && c == 1 && y) = true) := fun x y q => by
    rw [Bool.and_eq_true, Bool.and_eq_true] at q
    exact h1 (eq_of_beq q.1.2)
  show wpAny _ _ (if (((Builtin.Slice.sliceAdjust lo hi c (items.size : Int)).1 == 0 && c == 1 && (Builtin.Slice.slicePlaces (Builtin.Slice.sliceAdjust lo hi c (items.size : Int)).1 (Builtin.Slice.sliceAdjust lo hi c (items.size : Int)).2 c) == items.size) = true) then _ else _) _ _ s
  rw [if_neg (hno _ _), pickT_eq]
  first
    | exact wpAny_bind (m := Builtin.Tuple.tupleExact _) (wpAny_newObj_type (wpAny_pure ⟨_, rfl, wpAny_pure h⟩) htake)
    | exact wpAny_bind (m := Builtin.Tuple.tupleExact _) (wpAny_newObj_type (wpAny_bind (wpAny_pure (wpAny_pure ⟨_, rfl, wpAny_pure h⟩))) htake)
    | exact wpAny_bind (wpAny_bind (m := Builtin.Tuple.tupleExact _) (wpAny_newObj_type (wpAny_pure (wpAny_pure ⟨_, rfl, wpAny_pure h⟩)) htake))
    | exact wpAny_bind (wpAny_bind (m := Builtin.Tuple.tupleExact _) (wpAny_newObj_type (wpAny_pure ⟨_, rfl, wpAny_pure h⟩) htake))
end
theorem vals_fmT {xs : List V} {us : List Value} (r : Vals xs us) (f : Nat → Nat) : ∀ is : List Nat, Vals (is.filterMap fun i => xs[f i]?) (is.filterMap fun i => us[f i]?)
  | [] => .nil
  | i :: is => by
    rw [List.filterMap_cons, List.filterMap_cons]
    cases hx : xs[f i]? with
    | none =>
      have : us[f i]? = none := by
        rw [List.getElem?_eq_none_iff] at hx ⊢
        rw [← r.length]; exact hx
      rw [this]
      exact vals_fmT r f is
    | some x =>
      obtain ⟨u, hu, ru⟩ := r.get hx
      rw [hu]
      exact .cons ru (vals_fmT r f is)
theorem vals_pickT {xs : List V} {us : List Value} (r : Vals xs us) (lo hi : Option Int) (c : Int) : Vals (pickT xs lo hi c) (pickT us lo hi c) := by
  unfold pickT
  rw [r.length]
  exact vals_fmT r (fun m => ((Builtin.Slice.sliceAdjust lo hi c (us.length : Int)).1 + (m : Int) * c).toNat) _
def tStA (K : PySem.W.Frag) (te : TE) (tl th ts : L2.St → Hp → (Option Int → Hp → Prop) → Prop) : TE := fun σ H Q => te σ H fun x H1 => tl σ H1 fun l H2 => th σ H2 fun u H3 => ts σ H3 fun c H4 =>
  (∃ a xs, x = .ref a ∧ SqL K H4 a xs ∧ c ≠ some 0 ∧ (pickG xs l u c).length ≤ sizeLine ∧ ∀ p, H4 p = none → Q (.ref p) (upd H4 p (.lst (pickG xs l u c)))) ∨
  (∃ a xs k, x = .ref a ∧ SqT K H4 a xs ∧ c = some k ∧ k ≠ 0 ∧ k ≠ 1 ∧ (pickT xs l u k).length ≤ sizeLine ∧ ∀ p, H4 p = none → Q (.ref p) (upd H4 p (.tup (pickT xs l u k))))
theorem pe_stepA {X : Cx} {e : Expr} {te : TE} {lo hi : Option Expr} {st : Expr} {tl th ts : L2.St → Hp → (Option Int → Hp → Prop) → Prop} {p3 pos : Pos} (he : PE X e te) (hl : PO X lo tl) (hh : PO X hi th) (hst : PO X (some st) ts) : PE X (.Subscript e (.Slice lo hi (some st) p3) pos) (tStA X.K te tl th ts) := by
  refine ⟨fun pins s σ H Q I h => ?_⟩
  refine Subscript_ (thn (he.run pins s σ H _ I h) fun v s1 ⟨x, H1, I1, r1, q1⟩ => ?_)
  refine wpAny_Slice (thn (hl.run pins s1 σ H1 _ I1 q1) fun vl s2 ⟨l, H2, I2, pl, q2⟩ => ?_)
  refine thn (hh.run pins s2 σ H2 _ I2 q2) fun vu s3 ⟨u, H3, I3, pu, q3⟩ => ?_
  refine thn (hst.run pins s3 σ H3 _ I3 q3) fun vs s4 ⟨o, H4, I4, ps, q4⟩ => ?_
  have I5 : Inv X pins σ H4 { s4 with heap := s4.heap.push { cls := .type "slice", data := .fields #[vl, vu, vs] } } := I4.kept (t' := s4.toks) fun b ob q => Heap.get?_push_of_some _ q
  rcases q4 with ⟨a, xs, ex, hx, c0, hz', q⟩ | ⟨a, xs, k, ex, hx, eo, c0, c1, hz', q⟩
  · subst ex
    cases r1
    obtain ⟨its, r, ht, hz⟩ := I5.list hx
    have hlen := r.length
    show wpAny (model X.prog X.w) X.A (subscriptTail e (.Slice lo hi (some st) p3) (.ref a) (.ref s4.heap.objs.size)) (EP X pins σ Q) X.xe { s4 with heap := s4.heap.push { cls := .type "slice", data := .fields #[vl, vu, vs] } }
    refine tail_any (ops := [.ref a, .ref s4.heap.objs.size]) ht.isList.typeIs (PySem.slot_list_getitem.lookup) ?_ (by with_unfolding_all rfl)
    refine wpAny_getItem_list_slice ht.isList (Heap.IsSliceOf.new _ vl vu vs) pl pu ps c0 ?_ (by rw [List.size_toArray]; omega)
    rw [pick_eq]
    refine ⟨.ref _, _, I5.laid (t' := s4.toks) (o := .lst (pickG xs l u o)) (fun b ob q => Heap.get?_push_of_some _ q) (Nat.le_refl _) ?_, rfl, q _ (I5.hok.fresh (Nat.le_refl _))⟩
    exact ⟨hz', _, 0, vals_pick r l u o, Heap.get?_push_size _ rfl⟩
  · subst ex eo
    cases r1
    obtain ⟨its, r, ht, hz⟩ := I5.tuple hx
    have hlen := r.length
    have vp := vals_pickT r l u k
    show wpAny (model X.prog X.w) X.A (subscriptTail e (.Slice lo hi (some st) p3) (.ref a) (.ref s4.heap.objs.size)) (EP X pins σ Q) X.xe { s4 with heap := s4.heap.push { cls := .type "slice", data := .fields #[vl, vu, vs] } }
    refine tail_any (ops := [.ref a, .ref s4.heap.objs.size]) ht.typeIs (PyProof.Rows.slot_tuple_getitem.lookup) ?_ (by with_unfolding_all rfl)
    refine getItem_tuple_step ht (Heap.IsSliceOf.new _ vl vu vs) pl pu ps c0 c1 ?_ (by show (pickT its l u k).length ≤ _; rw [← vp.length]; exact hz')
    refine ⟨.ref _, _, I5.laid (t' := s4.toks) (o := .tup (pickT xs l u k)) (fun b ob q => Heap.get?_push_of_some _ q) (Nat.le_refl _) ?_, rfl, q _ (I5.hok.fresh (Nat.le_refl _))⟩
    exact ⟨hz', _, vp, IsTup.new _ _⟩
end ZX
namespace Z
open PySem PySem.Spec PyProof.Rows L2 ZX
section
variable {X : Cx} {W : Wi} {pos : Pos}
theorem reps_fm {K : PySem.W.Frag} {H : Hp} {xs : List V} {ds : List D} (r : Reps K H xs ds) : ∀ is : List Nat, Reps K H (is.filterMap (xs[·]?)) (is.filterMap (ds[·]?))
  | [] => .nil
  | i :: is => by
    rw [List.filterMap_cons, List.filterMap_cons]
    cases hx : ds[i]? with
    | none =>
      have : xs[i]? = none := by
        rw [List.getElem?_eq_none_iff] at hx ⊢
        rw [r.length]; exact hx
      rw [this]
      exact reps_fm r is
    | some d =>
      obtain ⟨u, hu, ru⟩ := r.get hx
      rw [hu]
      exact .cons ru (reps_fm r is)
theorem reps_pick {K : PySem.W.Frag} {H : Hp} {xs : List V} {ds : List D} (r : Reps K H xs ds) (lo hi st : Option Int) : Reps K H (pickG xs lo hi st) (pickG ds lo hi st) := by
  unfold pickG
  rw [r.length]
  exact reps_fm r _
def stpK (ds : List D) (l u c : Option Int) (δ : En) : RF := if (!decide (c = some 0) && decide ((pickG ds l u c).length ≤ 1000000)) = true then .ok (.lst (pickG ds l u c)) δ else .bad
def fStp (f : Den) (lo hi st : Option Den) : FDen := fun δ => bindEF (f δ) fun d δ1 => bindPF (dPart lo δ1) fun l δ2 => bindPF (dPart hi δ2) fun u δ3 => bindPF (dPart st δ3) fun c δ4 => match d with
  | .lst ds => stpK ds l u c δ4
  | _ => .bad
theorem mf_stp {e st : Expr} {f : Den} {lo hi : Option Expr} {fl fh fs : Option Den} {p2 : Pos} (he : PE X e (tM X.K W f)) (hl : PO X lo (tP X.K W (dPart fl))) (hh : PO X hi (tP X.K W (dPart fh))) (hst : PO X (some st) (tP X.K W (dPart fs))) : PE X (.Subscript e (.Slice lo hi (some st) p2) pos) (tF X.K W (fStp f fl fh fs)) :=
  PE_imp (pe_stepL he hl hh hst) fun σ H Q ⟨G, δ, H0, R, h⟩ => ⟨G, δ, H0, R, PoE.bindF h fun d δ1 v H1 H' R1 s1 r1 h1 => ⟨G, δ1, H1, R1, PoP.bindF h1 fun l δ2 H2 H'' R2 s2 h2 => ⟨G, δ2, H2, R2, PoP.bindF h2 fun u δ3 H3 H''' R3 s3 h3 => ⟨G, δ3, H3, R3, PoP.bindF h3 fun c δ4 H4 H4' R4 s4 h4 => by
    have r4 := r1.mono (s2.trans (s3.trans s4))
    split at h4
    · unfold stpK at h4
      split at h4
      · rename_i hc
        rw [Bool.and_eq_true, decide_eq_true_eq, Bool.not_eq_true', decide_eq_false_iff_not] at hc
        cases r4 with
        | lst q rs =>
          refine ⟨_, _, rfl, R4.hs.seq q, hc.1, ?_, fun p hp => h4.laid R4 hp ⟨_, upd_same, reps_pick rs l u c⟩⟩
          rw [(reps_pick rs l u c).length]
          exact Nat.le_trans hc.2 (by decide)
      · exact h4.elim
    · exact h4.elim⟩⟩⟩⟩
theorem reps_fmT {K : PySem.W.Frag} {H : Hp} {xs : List V} {ds : List D} (r : Reps K H xs ds) (f : Nat → Nat) : ∀ is : List Nat, Reps K H (is.filterMap fun i => xs[f i]?) (is.filterMap fun i => ds[f i]?)
  | [] => .nil
  | i :: is => by
    rw [List.filterMap_cons, List.filterMap_cons]
    cases hx : ds[f i]? with
    | none =>
      have : xs[f i]? = none := by
        rw [List.getElem?_eq_none_iff] at hx ⊢
        rw [r.length]; exact hx
      rw [this]
      exact reps_fmT r f is
    | some d =>
      obtain ⟨u, hu, ru⟩ := r.get hx
      rw [hu]
      exact .cons ru (reps_fmT r f is)
theorem reps_pickT {K : PySem.W.Frag} {H : Hp} {xs : List V} {ds : List D} (r : Reps K H xs ds) (lo hi : Option Int) (c : Int) : Reps K H (pickT xs lo hi c) (pickT ds lo hi c) := by
  unfold pickT
  rw [r.length]
  exact reps_fmT r (fun m => ((Builtin.Slice.sliceAdjust lo hi c (ds.length : Int)).1 + (m : Int) * c).toNat) _
/-- a slice with a step, read alone -/
def stpD (d : D) (l u c : Option Int) : Option D := match d with
  | .lst ds => if (!decide (c = some 0) && decide ((pickG ds l u c).length ≤ 1000000)) = true then some (.lst (pickG ds l u c)) else none
  | .tup ds => match c with
    | some k => if (!decide (k = 0) && !decide (k = 1) && decide ((pickT ds l u k).length ≤ 1000000)) = true then some (.tup (pickT ds l u k)) else none
    | none => none
  | _ => none
def dStp (f : Den) (lo hi st : Option Den) : Den := fun δ => bindE (f δ) fun d δ1 => bindP (dPart lo δ1) fun l δ2 => bindP (dPart hi δ2) fun u δ3 => bindP (dPart st δ3) fun c δ4 => ofO (stpD d l u c) δ4
theorem me_stp {e st : Expr} {f : Den} {lo hi : Option Expr} {fl fh fs : Option Den} {p2 : Pos} (he : PE X e (tM X.K W f)) (hl : PO X lo (tP X.K W (dPart fl))) (hh : PO X hi (tP X.K W (dPart fh))) (hst : PO X (some st) (tP X.K W (dPart fs))) : PE X (.Subscript e (.Slice lo hi (some st) p2) pos) (tM X.K W (dStp f fl fh fs)) :=
  PE_imp (pe_stepA he hl hh hst) fun σ H Q ⟨G, δ, H0, R, h⟩ => ⟨G, δ, H0, R, PoE.bind h fun d δ1 v H1 H' R1 s1 r1 h1 => ⟨G, δ1, H1, R1, PoP.bind h1 fun l δ2 H2 J2 R2 s2 h2 => ⟨G, δ2, H2, R2, PoP.bind h2 fun u δ3 H3 J3 R3 s3 h3 => ⟨G, δ3, H3, R3, PoP.bind h3 fun c δ4 H4 J4 R4 s4 h4 => by
    have r4 := r1.mono (s2.trans (s3.trans s4))
    obtain ⟨z, hz, h5⟩ := ofO_some h4
    unfold stpD at hz
    split at hz
    · split at hz
      · rename_i hc
        cases hz
        rw [Bool.and_eq_true, decide_eq_true_eq, Bool.not_eq_true', decide_eq_false_iff_not] at hc
        cases r4 with
        | lst q rs =>
          refine .inl ⟨_, _, rfl, R4.hs.seq q, hc.1, ?_, fun p hp => h5.new R4 (Gr.new R4.hs hp) (.lst (.inl (.inl upd_same)) ((reps_pick rs l u c).mono (Gr.new R4.hs hp).h0))⟩
          rw [(reps_pick rs l u c).length]
          exact Nat.le_trans hc.2 (by decide)
      · cases hz
    · split at hz
      · split at hz
        · rename_i k hc
          cases hz
          rw [Bool.and_eq_true, Bool.and_eq_true, decide_eq_true_eq, Bool.not_eq_true', Bool.not_eq_true', decide_eq_false_iff_not, decide_eq_false_iff_not] at hc
          cases r4 with
          | tup q rs =>
            refine .inr ⟨_, _, k, rfl, Same.seqT R4.hs q, rfl, hc.1.1, hc.1.2, ?_, fun p hp => h5.new R4 (Gr.new R4.hs hp) (.tup (.inl (.inl upd_same)) ((reps_pickT rs l u k).mono (Gr.new R4.hs hp).h0))⟩
            rw [(reps_pickT rs l u k).length]
            exact Nat.le_trans hc.2 (by decide)
        · cases hz
      · cases hz
    · cases hz⟩⟩⟩⟩
end
end Z

namespace ZQ
open PySem PySem.Spec PyProof.Rows L2
/-! ### enumerate over a tuple -/
theorem meets_enumerate_newT (l : Addr) (items : Array Value) (n : Nat) (dct : Option Addr) (sl : Array (Option Value)) :
    Meets (Builtin.«enumerate.__new__» ⟨[.type "enumerate", .ref l], []⟩) (fun _ R s => s.heap.get? l = some { cls := .type "tuple", dict := dct, data := .seq items n, slots := sl } ∧
      R (.ok (.ret (.ref (s.heap.push { cls := .type "tuple_iterator", data := .fields #[.ref l, .int 0 0] }).objs.size)))
        { s with heap := (s.heap.push { cls := .type "tuple_iterator", data := .fields #[.ref l, .int 0 0] }).push { cls := .type "enumerate", data := .fields #[.none, .bool false, .ref s.heap.objs.size, rawInt 0, .none, .none] } }) :=
  .of_wp fun prog w A R s h => by
    obtain ⟨hp, g, d, tk, os⟩ := s; obtain ⟨hl, h⟩ := h
    have hsub := sub_enumerate
    have hL : Heap.IsTuple (Shared.heap ⟨hp, g, d, tk, os⟩) l items := ⟨_, hl, rfl, n, rfl⟩
    wp_walk using AutoSeq1.wpAny_loadPart' hl
    refine wpAny_stack_any fun st => wpAny_pure ?_
    split
    · rename_i c _ _ _ _ _
      cases (c == Value.type "enumerate")
      · wp_walk using AutoSeq1.wpAny_loadPart' hl, wpAny_pyIter_tuple hL
        exact ⟨_, rfl, h⟩
      · wp_walk using AutoSeq1.wpAny_loadPart' hl, wpAny_pyIter_tuple hL
        exact ⟨_, rfl, h⟩
    · wp_walk using AutoSeq1.wpAny_loadPart' hl, wpAny_pyIter_tuple hL
      exact ⟨_, rfl, h⟩
section
variable {prog : Program} {w : World} {A : Around} {E : Value → Shared → Prop} {s : Shared}
theorem call_enumerate_tuple {l : Addr} {items : Array Value} {Q : Value → Shared → Prop} (hL : s.heap.IsTuple l items)
    (h : ∀ h', IsEnum h' (s.heap.objs.size + 1) s.heap.objs.size 0 .none → h'.IsTupleIter s.heap.objs.size l 0 → h'.objs.size = s.heap.objs.size + 2 →
      (∀ b o, s.heap.get? b = some o → h'.get? b = some o) → Q (.ref (s.heap.objs.size + 1)) { s with heap := h' }) :
    wpAny (model prog w) A (call (.type "enumerate") [.ref l]) Q E s := by
  obtain ⟨⟨c, dct, dt, sl⟩, hl, hc, n, hd⟩ := hL
  replace hc : c = .type "tuple" := hc
  replace hd : dt = .seq items n := hd
  subst hc hd
  refine callType_new F.called_enumerate (by decide) (F.typeCall_enumerate_1 _) (F.newCall_enumerate_1 _) (fun obj => F.args_object_init_2 obj _) F.entry_enumerate_new
    (meets_enumerate_newT l items n dct sl) ⟨hl, ?_⟩
  have hz : (s.heap.push { cls := .type "tuple_iterator", data := .fields #[.ref l, .int 0 0] }).objs.size = s.heap.objs.size + 1 := Heap.size_push ..
  show _ ∧ _
  rw [hz]
  have he : IsEnum ((s.heap.push { cls := .type "tuple_iterator", data := .fields #[.ref l, .int 0 0] }).push
      { cls := .type "enumerate", data := .fields #[.none, .bool false, .ref s.heap.objs.size, rawInt 0, .none, .none] }) (s.heap.objs.size + 1) s.heap.objs.size 0 .none := by
    have := Heap.get?_push_size (s.heap.push { cls := .type "tuple_iterator", data := .fields #[.ref l, .int 0 0] })
      (o := { cls := .type "enumerate", data := .fields #[.none, .bool false, .ref s.heap.objs.size, rawInt 0, .none, .none] }) rfl
    rw [hz] at this; exact this
  refine ⟨⟨_, he, rfl⟩, h _ he ⟨_, Heap.get?_push_of_some _ (Heap.get?_push_size _ rfl), rfl, rfl⟩ (by rw [Heap.size_push, hz]) fun b o x => Heap.get?_push_of_some _ (Heap.get?_push_of_some _ x)⟩
end
/-- the tuple at a, each item in a new pair -/
def IteT (K : PySem.W.Frag) (a : Addr) : It :=
  ⟨fun i H => ∃ (xs : List V) (x : V), SqT K H a xs ∧ xs[i]? = some x, fun i H v H' => ∃ T x, v = .ref T ∧ H T = none ∧ H' = upd H T (.tup [.int (i : Nat), x]) ∧ ∀ xs, SqT K H a xs → xs[i]? = some x, fun i H => ∃ xs : List V, SqT K H a xs ∧ xs.length ≤ i⟩
theorem turn_enumT {P : Program} {w : World} {K : PySem.W.Frag} {elts : List Expr} {kk : Nat} {tpos : Pos} (a e it : Addr) :
    Turn P w K (.Tuple elts kk tpos) (IteT K a) [e, it] e (fun i h => (∃ old, IsEnum h e it ((i : Nat) : Int) old) ∧ h.IsTupleIter it a i ∧ e ≠ it) where
  mem := by simp
  obj := fun i h st b hb => by
    obtain ⟨⟨old, he⟩, ⟨o, ho, hc, hd⟩, _⟩ := st
    have e' : b = e ∨ b = it := by simpa using hb
    rcases e' with z | z
    · rw [z]; exact ⟨_, he, fun v q => nomatch q⟩
    · rw [z]; exact ⟨o, ho, fun v q => by rw [hd] at q; cases q⟩
  keep := fun i h h' st k => let ⟨⟨old, he⟩, hi, hne⟩ := st; ⟨⟨old, k e (by simp) _ he⟩, hi.at fun o q => k it (by simp) o q, hne⟩
  item := by
    intro X hP hw hK hc i pins s σ H E I hf st hg
    subst hP hw hK
    obtain ⟨⟨old, he⟩, hit, hne⟩ := st
    obtain ⟨xs, x, hq, hx⟩ := hg
    obtain ⟨its, rv, p, hz⟩ := I.tuple hq
    obtain ⟨u, hu, ru⟩ := rv.get hx
    have hel : e < s.heap.objs.size := Heap.lt_size he
    have hil : it < s.heap.objs.size := by obtain ⟨_, q, _⟩ := hit; exact Heap.lt_size q
    have hai : a ≠ it := fun z => by
      subst z
      obtain ⟨o1, q1, c1, _⟩ := hit
      obtain ⟨o2, q2, c2, _⟩ := p
      rw [q1] at q2; cases q2
      rw [c1] at c2
      exact absurd (Value.type.inj c2) (by decide)
    have hae : a ≠ e := fun z => by
      subst z
      obtain ⟨o2, q2, c2, _⟩ := p
      have he' : s.heap.get? a = some _ := he
      rw [he'] at q2; cases q2
      exact absurd (Value.type.inj c2) (by decide)
    have hlt : i < its.toArray.size := by
      have := (List.getElem?_eq_some_iff.mp hu).1
      simpa using this
    refine wpAny_pyNext_enum_itemD (Draws.tuple (A := X.A.in1) (I.ok.hd hc) it a hai its.toArray) he ⟨hit, p⟩ hlt hne (by simp; exact ⟨hne, Ne.symm hae⟩) fun x' h' tk hP ho hst' hT hsz hk => ?_
    have ex : x' = u := by
      have hP : its.toArray[i]? = some x' := hP
      have hu' : its.toArray[i]? = some u := by simpa using hu
      rw [hu'] at hP; exact (Option.some.inj hP).symm
    subst ex
    refine ⟨_, rfl, wpAny_letOwnedTupleGo_enum (s := { s with heap := h', toks := tk + 1 }) ho fun h'' he' sb => ?_⟩
    have hT2 : h''.get? s.heap.objs.size = some { cls := .type "tuple", data := .seq #[.int i tk, x'] } := (sb.2 _ (Nat.ne_of_gt hel)).trans hT
    have new : ObjOk X.prog X.w (upd H s.heap.objs.size (.tup [.int (i : Nat), x])) h'' s.heap.objs.size (.tup [.int (i : Nat), x]) :=
      ⟨by show 2 ≤ sizeLine; decide, [.int i tk, x'], .cons ⟨_, rfl⟩ (.cons ru .nil), ⟨_, hT2, rfl, _, rfl⟩⟩
    have I1 : Inv X pins σ (upd H s.heap.objs.size (.tup [.int (i : Nat), x])) { s with heap := h'', toks := tk + 1 } :=
      I.turnedNew (ch := [e, it]) (fun b ob hb q => (sb.2 b (fun z => hb (by simp [z]))).trans (hk b ob (fun z => hb (by simp [z])) (fun z => hb (by simp [z])) q)) hf (Nat.le_refl _) new
    refine ⟨.ref s.heap.objs.size, _, I1, rfl, ⟨_, x, rfl, I.hok.fresh (Nat.le_refl _), rfl, fun ys hy => by rw [I.tuple_inj hy hq]; exact hx⟩, ⟨⟨x', ?_⟩, hst'.1.at fun o q => (sb.2 it (Ne.symm hne)).trans q, hne⟩, fun b hb => ?_⟩
    · have e1 : ((i + 1 : Nat) : Int) = (i : Int) + 1 := by omega
      rw [e1]; exact he'
    · have hb' : b < s.heap.objs.size := by
        have e' : b = e ∨ b = it := by simpa using hb
        rcases e' with z | z
        · rw [z]; exact hel
        · rw [z]; exact hil
      rw [upd_ne (Nat.ne_of_lt hb')]
      exact (hf b hb).1
  done := by
    intro X hP hw hK hc i pins s σ H E I hf st hg
    subst hP hw hK
    obtain ⟨⟨old, he⟩, hit, hne⟩ := st
    obtain ⟨xs, hq, hx⟩ := hg
    obtain ⟨its, rv, p, hz⟩ := I.tuple hq
    obtain ⟨f0, f1, f2, f3, f4, f5⟩ := hf it (by simp)
    have hl := rv.length
    have hT : s.TypeIs (.ref e) "enumerate" := ⟨_, he, rfl⟩
    unfold pyNext
    refine wpAny_bind (wpAny_attempt (wpAny_callSpecial?_slot (name := Str.ofString "__next__") hT F.slot_enumerate_next
      (wpAny_call_entry F.slot_enumerate_next hT F.entry_enumerate_next ?_ (F.args_enumerate_next_1 _))))
    show wpAny _ _ (field (.ref e) 2 >>= _) _ _ _
    refine wpAny_bind (wpAny_field he rfl (x := .ref it) rfl ?_)
    refine wpAny_bind (wpAny_nextOf_tuple_end (I.ok.hd hc) hit p (by simp; omega) fun h' x he' hx' => ?_)
    obtain ⟨o, ho, hc'⟩ := hx'
    refine wpAny_bind (wpAny_isInstance (T := "StopIteration") (b := true) ⟨o, ho, hc'⟩ isSubtype_stop ?_)
    exact wpAny_pure ⟨rfl, I.turned (t' := s.toks) (fun b o hb q => he' b o hb q) f0 f1 f3 f4 f5⟩
  self := fun A i s Q E st h => let ⟨⟨_, he⟩, _⟩ := st; wpAny_pyIter_enum he h
def iEnumA (K : PySem.W.Frag) (ta : TA) : TI := fun σ H R => ta σ H fun vs H1 => ∃ a xs, vs = [.ref a] ∧ ((SqL K H1 a xs ∧ R (Ite K a) H1) ∨ (SqT K H1 a xs ∧ R (IteT K a) H1))
theorem pi_enumA {X : Cx} {e : Expr} {ta : TA} {p pos tpos : Pos} {elts : List Expr} {kk : Nat} (hg : Gl X "enumerate") (hm : X.mg "enumerate" = none) (ha : PA X [e] ta) (hs : starEach [e] X.env = [(false, eval e X.env)] := by rfl) :
    PI X (.Tuple elts kk tpos) (.Call (.Name "enumerate" p) [e] [] pos) (iEnumA X.K ta) := by
  refine ⟨fun pins s σ H R I h => ?_⟩
  refine Call_ (ld_blt I hg hm boot_enumerate (PyProof.Rows.callWith_type1 (thn (ha.run pos pins s σ H _ I h) fun us s1 ⟨vs, H1, I1, r1, q1⟩ => ?_) hs rfl))
  obtain ⟨a, xs, ex, q1⟩ := q1
  subst ex
  cases r1 with
  | cons r rr =>
    cases rr
    cases r
    have low : ∀ b, b ∈ [s1.heap.objs.size + 1, s1.heap.objs.size] → s1.heap.objs.size ≤ b := fun b hb => by
      have e' : b = s1.heap.objs.size + 1 ∨ b = s1.heap.objs.size := by simpa using hb
      rcases e' with z | z
      · rw [z]; exact Nat.le_add_right _ _
      · rw [z]; exact Nat.le_refl _
    rcases q1 with ⟨hq, q⟩ | ⟨hq, q⟩
    · obtain ⟨its, rv, p', hz⟩ := I1.list hq
      refine call_enumerate_list p'.isList fun h' he hit hsz hk => wpAny_pyIter_enum he ?_
      have I2 : Inv X pins σ H1 { s1 with heap := h' } := I1.kept (t' := s1.toks) hk
      refine ⟨s1.heap.objs.size + 1, [s1.heap.objs.size + 1, s1.heap.objs.size], _, _, H1, rfl, I2, turn_enum a (s1.heap.objs.size + 1) s1.heap.objs.size, ⟨⟨.none, he⟩, hit, Nat.succ_ne_self _⟩, fun b hb => ?_, q⟩
      exact I1.fpOk (low b hb) (I1.hok.fresh (low b hb))
    · obtain ⟨its, rv, p', hz⟩ := I1.tuple hq
      refine call_enumerate_tuple p' fun h' he hit hsz hk => wpAny_pyIter_enum he ?_
      have I2 : Inv X pins σ H1 { s1 with heap := h' } := I1.kept (t' := s1.toks) hk
      refine ⟨s1.heap.objs.size + 1, [s1.heap.objs.size + 1, s1.heap.objs.size], _, _, H1, rfl, I2, turn_enumT a (s1.heap.objs.size + 1) s1.heap.objs.size, ⟨⟨.none, he⟩, hit, Nat.succ_ne_self _⟩, fun b hb => ?_, q⟩
      exact I1.fpOk (low b hb) (I1.hok.fresh (low b hb))
end ZQ

namespace ZU
open PySem PySem.Spec PyProof.Rows L2
/-! ### zip of a tuple and a list -/
def ItzM (K : PySem.W.Frag) (a b : Addr) : It :=
  ⟨fun i H => ∃ (xs ys : List V) (x y : V), SqT K H a xs ∧ SqL K H b ys ∧ xs[i]? = some x ∧ ys[i]? = some y,
    fun i H v H' => ∃ T x y, v = .ref T ∧ H T = none ∧ H' = upd H T (.tup [x, y]) ∧ (∀ xs, SqT K H a xs → xs[i]? = some x) ∧ ∀ ys, SqL K H b ys → ys[i]? = some y,
    fun i H => ∃ xs ys : List V, SqT K H a xs ∧ SqL K H b ys ∧ i ≤ xs.length ∧ i ≤ ys.length ∧ (i = xs.length ∨ i = ys.length)⟩
theorem turn_zipM {P : Program} {w : World} {K : PySem.W.Frag} {elts : List Expr} {kk : Nat} {tpos : Pos} {a b z TI TO i1 i2 : Addr} (D : ZipSep2 z TI TO i1 i2 [i1, a] [i2, b]) :
    Turn P w K (.Tuple elts kk tpos) (ItzM K a b) [z, TI, TO, i1, i2] z (fun i h => IsZip h z TI TO .none ∧ IsTupOf2 h TI (.ref i1) (.ref i2) ∧ (∃ x y, IsTupOf2 h TO x y) ∧ h.IsTupleIter i1 a i ∧ h.IsListIter i2 b i) where
  mem := by simp
  obj := fun i h st c hc => by
    obtain ⟨hz, hTI, ⟨x, y, hTO⟩, ⟨o1, e1, _, d1⟩, ⟨o2, e2, _, d2⟩⟩ := st
    have e' : c = z ∨ c = TI ∨ c = TO ∨ c = i1 ∨ c = i2 := by simpa using hc
    rcases e' with q | q | q | q | q
    · rw [q]; exact ⟨_, hz, fun v q => nomatch q⟩
    · rw [q]; exact ⟨_, hTI, fun v q => nomatch q⟩
    · rw [q]; exact ⟨_, hTO, fun v q => nomatch q⟩
    · rw [q]; exact ⟨o1, e1, fun v q => by rw [d1] at q; cases q⟩
    · rw [q]; exact ⟨o2, e2, fun v q => by rw [d2] at q; cases q⟩
  keep := fun i h h' st k => by
    obtain ⟨hz, hTI, ⟨x, y, hTO⟩, h1, h2⟩ := st
    exact ⟨k z (by simp) _ hz, k TI (by simp) _ hTI, ⟨x, y, k TO (by simp) _ hTO⟩, h1.at fun o q => k i1 (by simp) o q, h2.at fun o q => k i2 (by simp) o q⟩
  item := by
    intro X hP hw hK hc i pins s σ H E I hf st hg
    subst hP hw hK
    obtain ⟨hz, hTI, ⟨x0, y0, hTO⟩, h1, h2⟩ := st
    obtain ⟨xs, ys, x, y, hqx, hqy, hx, hy⟩ := hg
    obtain ⟨its, rv, p, _⟩ := I.tuple hqx
    obtain ⟨its2, rv2, p2, _⟩ := I.list hqy
    obtain ⟨u, hu, ru⟩ := rv.get hx
    obtain ⟨u2, hu2, ru2⟩ := rv2.get hy
    have hzl : z < s.heap.objs.size := Heap.lt_size hz
    have ha : a ≠ i1 := fun e => by
      subst e
      obtain ⟨o1, q1, c1, _⟩ := h1
      obtain ⟨o2, q2, c2, _⟩ := p
      rw [q1] at q2; cases q2
      rw [c1] at c2
      exact absurd (Value.type.inj c2) (by decide)
    have hb : b ≠ i2 := fun e => by
      subst e
      obtain ⟨o1, q1, c1, _⟩ := h2
      obtain ⟨o2, q2, c2, _⟩ := p2.isList
      rw [q1] at q2; cases q2
      rw [c1] at c2
      exact absurd (Value.type.inj c2) (by decide)
    have l1 : i < its.toArray.size := by
      have := (List.getElem?_eq_some_iff.mp hu).1
      simpa using this
    have l2 : i < its2.toArray.size := by
      have := (List.getElem?_eq_some_iff.mp hu2).1
      simpa using this
    refine wpAny_pyNext_zipD2_item D (Draws.tuple (A := X.A.in1) (I.ok.hd hc) i1 a ha its.toArray) (Draws.list (A := X.A.in1) (I.ok.hd hc) i2 b hb its2.toArray) hz hTI hTO ⟨h1, p⟩ ⟨h2, p2.isList⟩ l1 l2
      fun x1 x2 h' tk P1 P2 z' TO' st1 st2 hT hsz hk => ?_
    have ex1 : x1 = u := by
      have P1 : its.toArray[i]? = some x1 := P1
      have hu' : its.toArray[i]? = some u := by simpa using hu
      rw [hu'] at P1; exact (Option.some.inj P1).symm
    have ex2 : x2 = u2 := by
      have P2 : its2.toArray[i]? = some x2 := P2
      have hu' : its2.toArray[i]? = some u2 := by simpa using hu2
      rw [hu'] at P2; exact (Option.some.inj P2).symm
    subst ex1 ex2
    refine ⟨_, rfl, wpAny_letOwnedTupleGo_zip (s := { s with heap := h', toks := tk }) z' fun h'' z'' sb => ?_⟩
    have hT2 : h''.get? s.heap.objs.size = some { cls := .type "tuple", data := .seq #[x1, x2] } := (sb.2 _ (Nat.ne_of_gt hzl)).trans hT
    have new : ObjOk X.prog X.w (upd H s.heap.objs.size (.tup [x, y])) h'' s.heap.objs.size (.tup [x, y]) :=
      ⟨by show 2 ≤ sizeLine; decide, [x1, x2], .cons ru (.cons ru2 .nil), ⟨_, hT2, rfl, _, rfl⟩⟩
    have I1 : Inv X pins σ (upd H s.heap.objs.size (.tup [x, y])) { s with heap := h'', toks := tk } :=
      I.turnedNew (t' := tk) (ch := [z, TI, TO, i1, i2]) (fun c o hb q => (sb.2 c (fun q' => hb (by simp [q']))).trans (hk c o (fun q' => hb (by simp [q'])) (fun q' => hb (by simp [q'])) (fun q' => hb (by simp [q'])) (fun q' => hb (by simp [q'])) q)) hf (Nat.le_refl _) new
    refine ⟨.ref s.heap.objs.size, _, I1, rfl, ⟨_, x, y, rfl, I.hok.fresh (Nat.le_refl _), rfl, fun l hl => by rw [I.tuple_inj hl hqx]; exact hx, fun l hl => by rw [I.list_inj hl hqy]; exact hy⟩, ⟨z'', ?_, ⟨x1, x2, ?_⟩, ?_, ?_⟩, fun c hcm => ?_⟩
    · exact (sb.2 _ D.TIz).trans (hk _ _ D.TIz D.TITO D.TIi1 D.TIi2 hTI)
    · exact (sb.2 _ D.TOz).trans TO'
    · exact st1.1.at fun o q => (sb.2 _ (Ne.symm D.zi1)).trans q
    · exact st2.1.at fun o q => (sb.2 _ (Ne.symm D.zi2)).trans q
    · have hlt : c < s.heap.objs.size := by
        have e' : c = z ∨ c = TI ∨ c = TO ∨ c = i1 ∨ c = i2 := by simpa using hcm
        rcases e' with q | q | q | q | q
        · rw [q]; exact hzl
        · rw [q]; exact Heap.lt_size hTI
        · rw [q]; exact Heap.lt_size hTO
        · rw [q]; obtain ⟨_, e1, _⟩ := h1; exact Heap.lt_size e1
        · rw [q]; obtain ⟨_, e2, _⟩ := h2; exact Heap.lt_size e2
      rw [upd_ne (Nat.ne_of_lt hlt)]
      exact (hf c hcm).1
  done := by
    intro X hP hw hK hc i pins s σ H E I hf st hg
    subst hP hw hK
    obtain ⟨hz, hTI, ⟨x0, y0, hTO⟩, h1, h2⟩ := st
    obtain ⟨xs, ys, hqx, hqy, g1, g2, hend⟩ := hg
    obtain ⟨its, rv, p, _⟩ := I.tuple hqx
    obtain ⟨its2, rv2, p2, _⟩ := I.list hqy
    have l1 := rv.length
    have l2 := rv2.length
    have ha : a ≠ i1 := fun e => by
      subst e
      obtain ⟨o1, q1, c1, _⟩ := h1
      obtain ⟨o2, q2, c2, _⟩ := p
      rw [q1] at q2; cases q2
      rw [c1] at c2
      exact absurd (Value.type.inj c2) (by decide)
    have hb : b ≠ i2 := fun e => by
      subst e
      obtain ⟨o1, q1, c1, _⟩ := h2
      obtain ⟨o2, q2, c2, _⟩ := p2.isList
      rw [q1] at q2; cases q2
      rw [c1] at c2
      exact absurd (Value.type.inj c2) (by decide)
    exact wpAny_pyNext_zipD2_end D (Draws.tuple (A := X.A.in1) (I.ok.hd hc) i1 a ha its.toArray) (Draws.list (A := X.A.in1) (I.ok.hd hc) i2 b hb its2.toArray) hz hTI hTO ⟨h1, p⟩ ⟨h2, p2.isList⟩ (by simp; omega) (by simp; omega) (by simp; omega)
      fun h' tk hk => ⟨rfl, I.turnedL (t' := tk) (ch := [z, TI, TO, i1, i2]) (fun c o hb q =>
      hk c o (fun q' => hb (by simp [q'])) (fun q' => hb (by simp [q'])) (fun q' => hb (by simp [q'])) (fun q' => hb (by simp [q'])) q) hf⟩
  self := fun A i s Q E st h => wpAny_pyIter_zip st.1 h
def iZipB (K : PySem.W.Frag) (ta : TA) : TI := fun σ H R => ta σ H fun vs H1 => ∃ a b xs ys, vs = [.ref a, .ref b] ∧ ((SqL K H1 a xs ∧ SqL K H1 b ys ∧ R (Itz K a b) H1) ∨ (SqT K H1 a xs ∧ SqT K H1 b ys ∧ R (RZ.ItzT K a b) H1) ∨ (SqT K H1 a xs ∧ SqL K H1 b ys ∧ R (ItzM K a b) H1))
theorem pi_zipB {X : Cx} {e e2 : Expr} {ta : TA} {p pos tpos : Pos} {elts : List Expr} {kk : Nat} (hg : Gl X "zip") (hm : X.mg "zip" = none) (ha : PA X [e, e2] ta)
    (hs : starEach [e, e2] X.env = (false, eval e X.env) :: starEach [e2] X.env := by rfl) (hpl : (backTo pos (starEach [e2] X.env)).any (·.1) = false := by rfl) :
    PI X (.Tuple elts kk tpos) (.Call (.Name "zip" p) [e, e2] [] pos) (iZipB X.K ta) := by
  refine ⟨fun pins s σ H R I h => ?_⟩
  refine Call_ (ld_blt I hg hm PyProof.Rows.boot_zip (PyProof.Rows.callWith_type1 (thn (ha.run pos pins s σ H _ I h) fun us s1 ⟨vs, H1, I1, r1, q1⟩ => ?_) hs hpl))
  obtain ⟨a, b, xs, ys, ex, q1⟩ := q1
  subst ex
  cases r1 with
  | cons r rr =>
    cases rr with
    | cons r' rr =>
      cases rr
      cases r
      cases r'
      have fresh5 : ∀ c, c ∈ [s1.heap.objs.size + 4, s1.heap.objs.size + 2, s1.heap.objs.size + 3, s1.heap.objs.size, s1.heap.objs.size + 1] → FpOk X pins H1 c := fun c hcm => by
        have e' : c = s1.heap.objs.size + 4 ∨ c = s1.heap.objs.size + 2 ∨ c = s1.heap.objs.size + 3 ∨ c = s1.heap.objs.size ∨ c = s1.heap.objs.size + 1 := by simpa using hcm
        have hle : s1.heap.objs.size ≤ c := by
          rcases e' with z | z | z | z | z
          · rw [z]; exact Nat.le_add_right _ _
          · rw [z]; exact Nat.le_add_right _ _
          · rw [z]; exact Nat.le_add_right _ _
          · rw [z]; exact Nat.le_refl _
          · rw [z]; exact Nat.le_add_right _ _
        exact I1.fpOk hle (I1.hok.fresh hle)
      rcases q1 with ⟨hqx, hqy, q⟩ | ⟨hqx, hqy, q⟩ | ⟨hqx, hqy, q⟩
      · obtain ⟨its, rv, p1, _⟩ := I1.list hqx
        obtain ⟨its2, rv2, p2, _⟩ := I1.list hqy
        refine call_zip_2 p1.isList p2.isList fun h' hz hTI hTO h1 h2 hsz hk => wpAny_pyIter_zip hz ?_
        have I2 : Inv X pins σ H1 { s1 with heap := h' } := I1.kept (t' := s1.toks) hk
        exact ⟨s1.heap.objs.size + 4, [s1.heap.objs.size + 4, s1.heap.objs.size + 2, s1.heap.objs.size + 3, s1.heap.objs.size, s1.heap.objs.size + 1], _, _, H1, rfl, I2, turn_zip (PySem.W.ktu_apart s1.heap.objs.size a b p1.lt p2.lt), ⟨hz, hTI, ⟨_, _, hTO⟩, h1, h2⟩, fresh5, q⟩
      · obtain ⟨its, rv, p1, _⟩ := I1.tuple hqx
        obtain ⟨its2, rv2, p2, _⟩ := I1.tuple hqy
        obtain ⟨o1, ho1, _⟩ := id p1
        obtain ⟨o2, ho2, _⟩ := id p2
        refine RZ.call_zipT (show s1.heap.IsTuple a its.toArray from p1) (show s1.heap.IsTuple b its2.toArray from p2) fun h' hz hTI hTO h1 h2 hsz hk => wpAny_pyIter_zip hz ?_
        have I2 : Inv X pins σ H1 { s1 with heap := h' } := I1.kept (t' := s1.toks) hk
        exact ⟨s1.heap.objs.size + 4, [s1.heap.objs.size + 4, s1.heap.objs.size + 2, s1.heap.objs.size + 3, s1.heap.objs.size, s1.heap.objs.size + 1], _, _, H1, rfl, I2, RZ.turn_zipT (PySem.W.ktu_apart s1.heap.objs.size a b (Heap.lt_size ho1) (Heap.lt_size ho2)), ⟨hz, hTI, ⟨_, _, hTO⟩, h1, h2⟩, fresh5, q⟩
      · obtain ⟨its, rv, p1, _⟩ := I1.tuple hqx
        obtain ⟨its2, rv2, p2, _⟩ := I1.list hqy
        obtain ⟨o1, ho1, _⟩ := id p1
        refine zip_begins2 (begins_tuple a its.toArray) (begins_list b its2.toArray) (show s1.heap.IsTuple a its.toArray from p1) p2.isList fun h' hz hTI hTO h1 h2 hsz hk => wpAny_pyIter_zip hz ?_
        have I2 : Inv X pins σ H1 { s1 with heap := h' } := I1.kept (t' := s1.toks) hk
        refine ⟨s1.heap.objs.size + 4, [s1.heap.objs.size + 4, s1.heap.objs.size + 2, s1.heap.objs.size + 3, s1.heap.objs.size, s1.heap.objs.size + 1], _, _, H1, rfl, I2,
          turn_zipM (zip_sep2 (N := s1.heap.objs.size) (fp1 := [a]) (fp2 := [b]) (fun c hc => ?_) (fun c hc => ?_)), ⟨hz, hTI, ⟨_, _, hTO⟩, ⟨_, h1, rfl, rfl⟩, ⟨_, h2, rfl, rfl⟩⟩, fresh5, q⟩
        · rw [List.mem_singleton.mp hc]; exact Heap.lt_size ho1
        · rw [List.mem_singleton.mp hc]; exact p2.lt
end ZU
namespace Z
open PySem PySem.Spec PyProof.Rows L2
section
variable {X : Cx} {W : Wi} {pos : Pos}
/-! ### name.index(e), the name's list frozen -/
def indD (ds : List D) (e : D) : Option D :=
  if SeqAt.shaped (.list (toPys ds)) && SeqAt.shaped (toPy e) then ((toPys ds).findIdx? fun z => PyData.eqv z (toPy e)).map fun j => .int (j : Nat) else none
theorem indD_some {ds : List D} {e z : D} (h : indD ds e = some z) : SeqAt.shaped (.list (toPys ds)) = true ∧ SeqAt.shaped (toPy e) = true ∧ ∃ (j : Nat) (u : PyData), z = .int (j : Nat) ∧ (toPys ds)[j]? = some u ∧ PyData.eqv u (toPy e) = true ∧ ∀ (m : Nat) (u' : PyData), m < j → (toPys ds)[m]? = some u' → PyData.eqv u' (toPy e) = false := by
  unfold indD at h
  split at h
  · rename_i c
    rw [Bool.and_eq_true] at c
    cases hj : (toPys ds).findIdx? fun z => PyData.eqv z (toPy e) with
    | none => rw [hj] at h; cases h
    | some j =>
      rw [hj] at h
      cases h
      obtain ⟨h1, h2, h3⟩ := List.findIdx?_eq_some_iff_getElem.mp hj
      refine ⟨c.1, c.2, j, _, rfl, List.getElem?_eq_getElem h1, h2, fun m u' hm hu => ?_⟩
      have hml : m < (toPys ds).length := Nat.lt_trans hm h1
      rw [List.getElem?_eq_getElem hml] at hu
      cases hu
      have := h3 m hm
      simpa using this
  · cases h
def kInd (ds : List D) : D → En → RE := fun e δ2 => ofO (indD ds e) δ2
def dInd (i : Nat) (f : Den) : Den := fun δ => match δ[i]? with
  | some (.va (.lst ds)) => bindE (f δ) (kInd ds)
  | _ => .bad
theorem me_ind (hu : X.A.units + 65 < cLine) {i : Nat} {x : Str} {e : Expr} {f : Den} {p apos cpos : Pos} (hx : PE X (.Name x p) (tVar i)) (he : PE X e (tM X.K W f))
    (hfew : ((backTo cpos (starEach [e] X.env)).all (fun x => !x.1) && (backToKw cpos (keywordEach [] X.env)).all (fun x => x.1.isSome)
      && decide ([e].length + ([] : List Keyword).length + (if ([] : List Keyword).isEmpty then 0 else 1) < 30)) = true)
    (hline : (apos.endLine == cpos.line) = true) (hs : starEach [e] X.env = [(false, eval e X.env)]) : PE X (.Call (.Attribute (.Name x p) "index" apos) [e] [] cpos) (tM X.K W (dInd i f)) :=
  PE_imp (pe_bm PySem.F.plainAttrs_list PySem.F.slot_list_index PySem.F.type_list_index (mt_indexD hu) hx (pa_cons he pa_nil hs) rfl hfew hline hs rfl) fun σ H Q ⟨G, δ, H0, R, q⟩ => by
    unfold dInd at q
    split at q
    · rename_i ds e0
      obtain ⟨v, h1, r⟩ := R.va_at e0
      cases r with
      | lst hl rs =>
        rename_i a xs
        refine ⟨.ref a, h1, .inl ⟨rfl, xs, R.hs.seq hl⟩, G, δ, H0, R, PoE.bind q fun d δ1 w H01 H1 R1 s1 r1 h2 => ?_⟩
        obtain ⟨z, hz, h3⟩ := ofO_some h2
        obtain ⟨c1, c2, j, u, rfl, hj, he, hn⟩ := indD_some hz
        have rl : Rep X.K H01 (.ref a) (.lst ds) := (Rep.lst hl rs).mono s1
        have dl : Dp X.K H01 (.ref a) (.list (toPys ds)) := by
          have := rl.dp (by unfold toPy; exact SeqAt.canLay_of_shaped c1)
          unfold toPy at this
          exact this
        exact ⟨a, w, toPy d, toPys ds, j, u, rfl, rfl, Dp.up R1.hs dl, Dp.up R1.hs (r1.dp (SeqAt.canLay_of_shaped c2)), c1, c2, hj, he, hn, h3.val R1 (.int _)⟩
    · exact q.elim
end
end Z

namespace Z
open PySem PySem.Spec PyProof.Rows L2
section
variable {X : Cx} {W : Wi} {pos : Pos}
/-! ### zip, enumerate -/
def zipD : List D → List D → List D
  | a :: as, b :: bs => .tup [a, b] :: zipD as bs
  | _, _ => []
theorem zipD_len : ∀ (as bs : List D), (zipD as bs).length = min as.length bs.length
  | [], _ => by unfold zipD; simp
  | _ :: _, [] => by unfold zipD; simp
  | a :: as, b :: bs => by unfold zipD; rw [List.length_cons, zipD_len as bs, List.length_cons, List.length_cons]; omega
theorem zipD_get : ∀ {as bs : List D} {i : Nat}, i < (zipD as bs).length → ∃ x y, as[i]? = some x ∧ bs[i]? = some y ∧ (zipD as bs)[i]? = some (.tup [x, y])
  | [], _, i, h => by unfold zipD at h; exact absurd h (Nat.not_lt_zero _)
  | _ :: _, [], i, h => by unfold zipD at h; exact absurd h (Nat.not_lt_zero _)
  | a :: as, b :: bs, 0, h => ⟨a, b, rfl, rfl, rfl⟩
  | a :: as, b :: bs, i + 1, h => by
    unfold zipD at h
    obtain ⟨x, y, e1, e2, e3⟩ := zipD_get (as := as) (bs := bs) (i := i) (by simpa using h)
    exact ⟨x, y, by simpa using e1, by simpa using e2, by unfold zipD; simpa using e3⟩
theorem yields_zipL {K : PySem.W.Frag} {He H0 : Hp} {a b : Addr} {xs ys : List V} {ds es : List D} (ha : SqL K H0 a xs) (hb : SqL K H0 b ys) (ra : Reps K H0 xs ds) (rb : Reps K H0 ys es) : Yields K (Itz K a b) He H0 (zipD ds es) where
  go := fun i H s _ hi => by
    obtain ⟨x, y, e1, e2, _⟩ := zipD_get hi
    obtain ⟨v, e3, _⟩ := ra.get e1
    obtain ⟨w, e4, _⟩ := rb.get e2
    exact ⟨xs, ys, v, w, s.seq ha, s.seq hb, e3, e4⟩
  stop := fun i H s _ hi => ⟨xs, ys, s.seq ha, s.seq hb, by
    rw [zipD_len] at hi
    rw [ra.length, rb.length]
    omega⟩
  yld := fun i H x H' Hc s0 s _ hi y => by
    obtain ⟨T, u, v, rfl, hT, rfl, f1, f2⟩ := y
    obtain ⟨dx, dy, e1, e2, e5⟩ := zipD_get hi
    obtain ⟨v1, e3, r1⟩ := ra.get e1
    obtain ⟨w1, e4, r2⟩ := rb.get e2
    have g1 := f1 xs (s.seq (s0.seq ha))
    have g2 := f2 ys (s.seq (s0.seq hb))
    rw [e3] at g1; cases g1
    rw [e4] at g2; cases g2
    have g := Gr.new (o := .tup [u, v]) s hT
    exact ⟨_, _, e5, g, .tup (.inl (.inl upd_same)) (.cons (r1.mono (s0.trans g.h0)) (.cons (r2.mono (s0.trans g.h0)) .nil))⟩
theorem yields_zipT {K : PySem.W.Frag} {He H0 : Hp} {a b : Addr} {xs ys : List V} {ds es : List D} (ha : SqT K H0 a xs) (hb : SqT K H0 b ys) (ra : Reps K H0 xs ds) (rb : Reps K H0 ys es) : Yields K (RZ.ItzT K a b) He H0 (zipD ds es) where
  go := fun i H s _ hi => by
    obtain ⟨x, y, e1, e2, _⟩ := zipD_get hi
    obtain ⟨v, e3, _⟩ := ra.get e1
    obtain ⟨w, e4, _⟩ := rb.get e2
    exact ⟨xs, ys, v, w, Same.seqT s ha, Same.seqT s hb, e3, e4⟩
  stop := fun i H s _ hi => ⟨xs, ys, Same.seqT s ha, Same.seqT s hb, by
    rw [zipD_len] at hi
    rw [ra.length, rb.length]
    omega⟩
  yld := fun i H x H' Hc s0 s _ hi y => by
    obtain ⟨T, u, v, rfl, hT, rfl, f1, f2⟩ := y
    obtain ⟨dx, dy, e1, e2, e5⟩ := zipD_get hi
    obtain ⟨v1, e3, r1⟩ := ra.get e1
    obtain ⟨w1, e4, r2⟩ := rb.get e2
    have g1 := f1 xs (Same.seqT s (Same.seqT s0 ha))
    have g2 := f2 ys (Same.seqT s (Same.seqT s0 hb))
    rw [e3] at g1; cases g1
    rw [e4] at g2; cases g2
    have g := Gr.new (o := .tup [u, v]) s hT
    exact ⟨_, _, e5, g, .tup (.inl (.inl upd_same)) (.cons (r1.mono (s0.trans g.h0)) (.cons (r2.mono (s0.trans g.h0)) .nil))⟩
theorem yields_zipM {K : PySem.W.Frag} {He H0 : Hp} {a b : Addr} {xs ys : List V} {ds es : List D} (ha : SqT K H0 a xs) (hb : SqL K H0 b ys) (ra : Reps K H0 xs ds) (rb : Reps K H0 ys es) : Yields K (ZU.ItzM K a b) He H0 (zipD ds es) where
  go := fun i H s _ hi => by
    obtain ⟨x, y, e1, e2, _⟩ := zipD_get hi
    obtain ⟨v, e3, _⟩ := ra.get e1
    obtain ⟨w, e4, _⟩ := rb.get e2
    exact ⟨xs, ys, v, w, Same.seqT s ha, s.seq hb, e3, e4⟩
  stop := fun i H s _ hi => ⟨xs, ys, Same.seqT s ha, s.seq hb, by
    rw [zipD_len] at hi
    rw [ra.length, rb.length]
    omega⟩
  yld := fun i H x H' Hc s0 s _ hi y => by
    obtain ⟨T, u, v, rfl, hT, rfl, f1, f2⟩ := y
    obtain ⟨dx, dy, e1, e2, e5⟩ := zipD_get hi
    obtain ⟨v1, e3, r1⟩ := ra.get e1
    obtain ⟨w1, e4, r2⟩ := rb.get e2
    have g1 := f1 xs (Same.seqT s (Same.seqT s0 ha))
    have g2 := f2 ys (s.seq (s0.seq hb))
    rw [e3] at g1; cases g1
    rw [e4] at g2; cases g2
    have g := Gr.new (o := .tup [u, v]) s hT
    exact ⟨_, _, e5, g, .tup (.inl (.inl upd_same)) (.cons (r1.mono (s0.trans g.h0)) (.cons (r2.mono (s0.trans g.h0)) .nil))⟩
def enuD : Nat → List D → List D
  | _, [] => []
  | n, d :: ds => .tup [.int (n : Nat), d] :: enuD (n + 1) ds
theorem enuD_len : ∀ (n : Nat) (ds : List D), (enuD n ds).length = ds.length
  | _, [] => rfl
  | n, d :: ds => by unfold enuD; rw [List.length_cons, enuD_len, List.length_cons]
theorem enuD_get : ∀ {n i : Nat} {ds : List D} {d : D}, ds[i]? = some d → (enuD n ds)[i]? = some (.tup [.int ((n + i : Nat) : Int), d])
  | _, _, [], _, h => by simp at h
  | n, 0, d :: ds, _, h => by simp at h; subst h; rfl
  | n, i + 1, d :: ds, _, h => by
    unfold enuD
    rw [List.getElem?_cons_succ, enuD_get (by simpa using h)]
    have : n + 1 + i = n + (i + 1) := by omega
    rw [this]
theorem yields_enum {K : PySem.W.Frag} {He H0 : Hp} {a : Addr} {xs : List V} {ds : List D} (ha : SqL K H0 a xs) (ra : Reps K H0 xs ds) : Yields K (Ite K a) He H0 (enuD 0 ds) where
  go := fun i H s _ hi => by
    rw [enuD_len] at hi
    obtain ⟨v, e3, _⟩ := ra.get (List.getElem?_eq_getElem hi)
    exact ⟨xs, v, s.seq ha, e3⟩
  stop := fun i H s _ hi => ⟨xs, s.seq ha, by rw [enuD_len] at hi; rw [ra.length]; exact Nat.le_of_eq hi.symm⟩
  yld := fun i H x H' Hc s0 s _ hi y => by
    rw [enuD_len] at hi
    obtain ⟨T, u, rfl, hT, rfl, f1⟩ := y
    obtain ⟨v, e3, r1⟩ := ra.get (List.getElem?_eq_getElem hi)
    have g1 := f1 xs (s.seq (s0.seq ha))
    rw [e3] at g1; cases g1
    have g := Gr.new (o := .tup [.int (i : Nat), u]) s hT
    refine ⟨_, _, enuD_get (List.getElem?_eq_getElem hi), g, ?_⟩
    rw [Nat.zero_add]
    exact .tup (.inl (.inl upd_same)) (.cons (.int _) (.cons (r1.mono (s0.trans g.h0)) .nil))
theorem yields_enumT {K : PySem.W.Frag} {He H0 : Hp} {a : Addr} {xs : List V} {ds : List D} (ha : SqT K H0 a xs) (ra : Reps K H0 xs ds) : Yields K (ZQ.IteT K a) He H0 (enuD 0 ds) where
  go := fun i H s _ hi => by
    rw [enuD_len] at hi
    obtain ⟨v, e3, _⟩ := ra.get (List.getElem?_eq_getElem hi)
    exact ⟨xs, v, Same.seqT s ha, e3⟩
  stop := fun i H s _ hi => ⟨xs, Same.seqT s ha, by rw [enuD_len] at hi; rw [ra.length]; exact Nat.le_of_eq hi.symm⟩
  yld := fun i H x H' Hc s0 s _ hi y => by
    rw [enuD_len] at hi
    obtain ⟨T, u, rfl, hT, rfl, f1⟩ := y
    obtain ⟨v, e3, r1⟩ := ra.get (List.getElem?_eq_getElem hi)
    have g1 := f1 xs (Same.seqT s (Same.seqT s0 ha))
    rw [e3] at g1; cases g1
    have g := Gr.new (o := .tup [.int (i : Nat), u]) s hT
    refine ⟨_, _, enuD_get (List.getElem?_eq_getElem hi), g, ?_⟩
    rw [Nat.zero_add]
    exact .tup (.inl (.inl upd_same)) (.cons (.int _) (.cons (r1.mono (s0.trans g.h0)) .nil))
def zipL : List D → Option (List D)
  | [.lst a, .lst b] => some (zipD a b)
  | [.tup a, .tup b] => some (zipD a b)
  | [.tup a, .lst b] => some (zipD a b)
  | _ => none
def enuL : List D → Option (List D)
  | [.lst a] => some (enuD 0 a)
  | [.tup a] => some (enuD 0 a)
  | _ => none
/-- what is walked, by the values of the arguments -/
def iLs (g : List D → Option (List D)) (fs : List Den) : En → RI := fun δ => match dArgs fs δ with
  | .ok ds δ1 => (match g ds with
    | some es => .ok es δ1
    | none => .bad)
  | .rz c δ => .rz c δ
  | .bad => .bad
theorem mi_zip {a b : Expr} {f g : Den} {p tpos : Pos} {elts : List Expr} {kk : Nat} (hg : Gl X "zip") (hm : X.mg "zip" = none) (ha : PA X [a, b] (tA X.K W (dArgs [f, g]))) (hs : starEach [a, b] X.env = (false, eval a X.env) :: starEach [b] X.env) (hs2 : starEach [b] X.env = [(false, eval b X.env)]) :
    PI X (.Tuple elts kk tpos) (.Call (.Name "zip" p) [a, b] [] pos) (tI X.K W (iLs zipL [f, g])) :=
  PI_imp (ZU.pi_zipB hg hm ha hs (by rw [hs2]; rfl)) fun σ H R ⟨G, δ, H0, Rr, q⟩ => ⟨G, δ, H0, Rr, by
    unfold iLs at q
    cases e : dArgs [f, g] δ with
    | bad => rw [e] at q; exact q
    | rz c δ1 => rw [e] at q; exact q
    | ok ds δ1 =>
      rw [e] at q
      intro vs H1 H' R1 s1 r1
      have l := dArgs_len e
      match ds, l, r1, q with
      | [d, d2], _, r1, q =>
        obtain ⟨v, v2, rfl, rv, rv2⟩ := reps2 r1
        cases rv with
        | lst h1 q1 =>
          cases rv2 with
          | lst h2 q2 => exact ⟨_, _, _, _, rfl, .inl ⟨R1.hs.seq h1, R1.hs.seq h2, q _ H1 H' R1 s1 (yields_zipL h1 h2 q1 q2)⟩⟩
          | _ => exact q.elim
        | tup h1 q1 =>
          cases rv2 with
          | tup h2 q2 => exact ⟨_, _, _, _, rfl, .inr (.inl ⟨Same.seqT R1.hs h1, Same.seqT R1.hs h2, q _ H1 H' R1 s1 (yields_zipT h1 h2 q1 q2)⟩)⟩
          | lst h2 q2 => exact ⟨_, _, _, _, rfl, .inr (.inr ⟨Same.seqT R1.hs h1, R1.hs.seq h2, q _ H1 H' R1 s1 (yields_zipM h1 h2 q1 q2)⟩)⟩
          | _ => exact q.elim
        | _ => exact q.elim⟩
theorem mi_enum {a : Expr} {f : Den} {p tpos : Pos} {elts : List Expr} {kk : Nat} (hg : Gl X "enumerate") (hm : X.mg "enumerate" = none) (ha : PA X [a] (tA X.K W (dArgs [f]))) (hs : starEach [a] X.env = [(false, eval a X.env)]) :
    PI X (.Tuple elts kk tpos) (.Call (.Name "enumerate" p) [a] [] pos) (tI X.K W (iLs enuL [f])) :=
  PI_imp (ZQ.pi_enumA hg hm ha hs) fun σ H R ⟨G, δ, H0, Rr, q⟩ => ⟨G, δ, H0, Rr, by
    unfold iLs at q
    cases e : dArgs [f] δ with
    | bad => rw [e] at q; exact q
    | rz c δ1 => rw [e] at q; exact q
    | ok ds δ1 =>
      rw [e] at q
      intro vs H1 H' R1 s1 r1
      have l := dArgs_len e
      match ds, l, r1, q with
      | [d], _, r1, q =>
        obtain ⟨v, rfl, rv⟩ := reps1 r1
        cases rv with
        | lst h1 q1 => exact ⟨_, _, rfl, .inl ⟨R1.hs.seq h1, q _ H1 H' R1 s1 (yields_enum h1 q1)⟩⟩
        | tup h1 q1 => exact ⟨_, _, rfl, .inr ⟨Same.seqT R1.hs h1, q _ H1 H' R1 s1 (yields_enumT h1 q1)⟩⟩
        | _ => exact q.elim⟩
/-! ### range of three -/
def rngC (lo c : Int) : Nat → List D
  | 0 => []
  | n + 1 => .int lo :: rngC (lo + c) c n
theorem rngC_len : ∀ (lo c : Int) (n : Nat), (rngC lo c n).length = n
  | lo, c, 0 => rfl
  | lo, c, n + 1 => by rw [rngC, List.length_cons, rngC_len]
theorem rngC_get : ∀ (lo c : Int) (n i : Nat), i < n → (rngC lo c n)[i]? = some (.int (lo + (i : Nat) * c))
  | lo, c, n + 1, 0, _ => by rw [rngC]; simp
  | lo, c, n + 1, i + 1, h => by
    rw [rngC, List.getElem?_cons_succ, rngC_get (lo + c) c n i (by omega)]
    congr 2
    rw [Int.natCast_add, Int.add_mul]
    omega
theorem yields_rngC {K : PySem.W.Frag} {He H0 : Hp} (lo c : Int) (n : Nat) : Yields K (Itc lo c n) He H0 (rngC lo c n) where
  go := fun i H s _ hi => by rw [rngC_len] at hi; exact hi
  stop := fun i H s _ hi => by rw [rngC_len] at hi; exact Nat.le_of_eq hi.symm
  yld := fun i H x H' Hc s0 s _ hi y => by
    obtain ⟨rfl, rfl⟩ := y
    rw [rngC_len] at hi
    exact ⟨_, Hc, rngC_get lo c n i hi, Gr.refl s, .int _⟩
def rgOk (i j c : Int) : Bool := decide (c ≠ 0) && decide (c.natAbs < 1073741824) && Builtin.Range.small i j c
def rng3L : List D → Option (List D)
  | [.int i, .int j, .int c] => if rgOk i j c then some (rngC i c (Builtin.Range.rangeSize i j c).toNat) else none
  | _ => none
theorem mi_rng3 {tg a b c : Expr} {f g h : Den} {p : Pos} (hg : Gl X "range") (hm : X.mg "range" = none) (ha : PA X [a, b, c] (tA X.K W (dArgs [f, g, h]))) (hs : starEach [a, b, c] X.env = (false, eval a X.env) :: starEach [b, c] X.env) (hpl : (backTo pos (starEach [b, c] X.env)).any (·.1) = false) :
    PI X tg (.Call (.Name "range" p) [a, b, c] [] pos) (tI X.K W (iLs rng3L [f, g, h])) :=
  PI_imp (pi_range3 hg hm ha hs hpl) fun σ H R ⟨G, δ, H0, Rr, q⟩ => ⟨G, δ, H0, Rr, by
    unfold iLs at q
    cases e : dArgs [f, g, h] δ with
    | bad => rw [e] at q; exact q
    | rz c δ1 => rw [e] at q; exact q
    | ok ds δ1 =>
      rw [e] at q
      intro vs H1 H' R1 s1 r1
      have l := dArgs_len e
      match ds, l, r1, q with
      | [d, d2, d3], _, r1, q =>
        cases r1 with
        | cons v1 r1 =>
          cases r1 with
          | cons v2 r1 =>
            cases r1 with
            | cons v3 r1 =>
              cases r1
              cases d with
              | int i =>
                cases d2 with
                | int j =>
                  cases d3 with
                  | int k =>
                    simp only [rng3L] at q
                    split at q
                    · rename_i es he
                      split at he
                      · rename_i ok
                        cases he
                        unfold rgOk at ok
                        simp only [Bool.and_eq_true, decide_eq_true_eq] at ok
                        cases v1
                        cases v2
                        cases v3
                        exact ⟨i, j, k, _, rfl, ⟨ok.1.1, ok.1.2, ok.2, rangeSize_toNat i j k⟩, q _ H1 H' R1 s1 (yields_rngC i k _)⟩
                      · cases he
                    · exact q.elim
                  | _ => exact q.elim
                | _ => exact q.elim
              | _ => exact q.elim⟩
/-! ### what is never reached -/
def dBad : Den := fun _ => .bad
def fBad : FDen := fun _ => .bad
def sBad : SDen := fun _ => .bad
theorem me_bad {e : Expr} : PE X e (tM X.K W dBad) := ⟨fun _ _ _ _ _ _ ⟨_, _, _, _, q⟩ => q.elim⟩
theorem mt_bad {e : Expr} : PT X e (tT X.K W dBad) := ⟨fun _ _ _ _ _ _ ⟨_, _, _, _, q⟩ => q.elim⟩
theorem ms_bad {e : Stmt} : PS X e (sM X.K W sBad) := ⟨fun _ _ _ _ _ _ ⟨_, _, _, _, q⟩ => q.elim⟩
/-! ### new lists -/
def catK (x y : D) (δ : En) : RF :=
  match x, y with
  | .lst a, .lst b => if a.length + b.length ≤ 1000000 then .ok (.lst (a ++ b)) δ else .bad
  | _, _ => .bad
def fAdd (fa fb : Den) : FDen := fun δ => bindEF (fa δ) fun x δ1 => bindEF (fb δ1) fun y δ2 => catK x y δ2
theorem mf_add {a b : Expr} {fa fb : Den} (ha : PE X a (tM X.K W fa)) (hb : PE X b (tM X.K W fb)) : PE X (.BinOp a .Add b pos) (tF X.K W (fAdd fa fb)) :=
  PE_imp (pe_op op_catL ha hb) fun σ H Q ⟨G, δ, H0, R, h⟩ => ⟨G, δ, H0, R, PoE.bindF h fun d δ1 v H01 H1 R1 s1 r1 h1 => ⟨G, δ1, H01, R1, PoE.bindF h1 fun e δ2 w H02 H2 R2 s2 r2 h2 => by
    have r1' := r1.mono s2
    unfold catK at h2
    split at h2
    · split at h2
      · rename_i c
        cases r1' with
        | lst h1 q1 =>
          cases r2 with
          | lst h3 q3 => exact ⟨_, _, _, _, rfl, rfl, R2.hs.seq h1, R2.hs.seq h3, by rw [q1.length, q3.length]; exact sz_le c, fun p hp => h2.laid R2 hp ⟨_, upd_same, q1.append q3⟩⟩
      · exact h2.elim
    · exact h2.elim⟩⟩
def listK (x : D) (δ : En) : RF :=
  match x with
  | .lst a => .ok (.lst a) δ
  | .tup a => .ok (.lst a) δ
  | _ => .bad
def fList (fa : Den) : FDen := fun δ => bindEF (fa δ) fun x δ1 => listK x δ1
theorem mf_list {a : Expr} {fa : Den} {p : Pos} (hg : Gl X "list") (hm : X.mg "list" = none) (ha : PE X a (tM X.K W fa)) (he : starEach [a] X.env = [(false, eval a X.env)]) : PE X (.Call (.Name "list" p) [a] [] pos) (tF X.K W (fList fa)) :=
  PE_imp (pe_callTy (T := "list") call_list_of hg hm PyProof.Rows.boot_list (pa_cons ha pa_nil he) (by decide) (by decide) he rfl) fun σ H Q ⟨G, δ, H0, R, h⟩ => ⟨G, δ, H0, R, PoE.bindF h fun d δ1 v H1 H' R1 s1 r1 h1 => by
    unfold listK at h1
    split at h1
    · cases r1 with
      | lst q rs => exact ⟨_, _, rfl, .inl (R1.hs.seq q), fun p hp => h1.laid R1 hp ⟨_, upd_same, rs⟩⟩
    · cases r1 with
      | tup q rs => exact ⟨_, _, rfl, .inr (Same.seqT R1.hs q), fun p hp => h1.laid R1 hp ⟨_, upd_same, rs⟩⟩
    · exact h1.elim⟩
/-! ### what is given back as the caller's own -/
def retFK : RF → RS
  | .ok o δ => .ro o δ
  | .rz c δ => .rz c δ
  | .bad => .bad
def sRetF (f : FDen) : SDen := fun δ => retFK (f δ)
theorem ms_retF {e : Expr} {f : FDen} (he : PE X e (tF X.K W f)) : PS X (.Return (some e) pos) (sM X.K W (sRetF f)) :=
  PS_imp (ps_ret he) fun D σ H ⟨G, δ, H0, R, q⟩ => ⟨G, δ, H0, R, by
    unfold sRetF at q
    cases e : f δ with
    | bad => rw [e] at q; exact q
    | rz c δ1 => rw [e] at q; exact fun cls dd H1 H' R1 s x => q cls dd σ H1 H' R1 s x
    | ok o δ1 => rw [e] at q; exact fun a H1 H' R1 s n ne w nw => q a σ H1 H' R1 s n ne w nw⟩
def retOK (s : Option Sl) (i : Nat) (δ : En) : RS :=
  match s with
  | some (.ow o) => .ro o (δ.set i .no)
  | _ => .bad
def sRetO (i : Nat) : SDen := fun δ => retOK δ[i]? i δ
theorem ms_retO {i : Nat} {x : Str} {p : Pos} (hx : PE X (.Name x p) (tVar i)) : PS X (.Return (some (.Name x p)) pos) (sM X.K W (sRetO i)) :=
  PS_imp (ps_ret hx) fun D σ H ⟨G, δ, H0, R, q⟩ => by
    unfold sRetO retOK at q
    split at q
    · rename_i o e
      obtain ⟨a, hσ, n0, ne, w⟩ := R.own_at e
      have R' := R.fgt1 i
      unfold Z.fgt1 at R'
      rw [e] at R'
      refine ⟨.ref a, hσ, q a σ H0 H R' (Same.refl _) n0 ne w fun j s h1 h2 h3 => ?_⟩
      have hl : i < δ.length := (List.getElem?_eq_some_iff.mp e).1
      by_cases hj : i = j
      · subst hj
        rw [List.getElem?_set_self hl] at h1
        cases h1
        cases h2
      · rw [List.getElem?_set_ne hj] at h1
        exact R.dj i j _ s a hj e h1 rfl h2 hσ h3
    · exact q.elim
/-- a call whose end is the caller's own -/
def ofDF (r : RD) (δ : En) : RF :=
  match r with
  | .ow o => .ok o δ
  | .rz c => .rz c δ
  | _ => .bad
def fCall (g : List D → RD) (fs : List Den) : FDen := fun δ => bindAF (dArgs fs δ) fun ds δ1 => ofDF (g ds) δ1
theorem mf_call {CX : CXT} {k : Nat} {f : Addr} {fd : FuncData} {ps : List Str} {n : Nat} {ct : Nat → Addr} {x : Str} {p : Pos} {e : Expr} {es : List Expr} {g : List D → RD} {fs : List Den}
    (F : FnOk X.prog X.w X.K X.mg X.base CX k f fd ps (spD X.K ct n g)) (hr : Room k X.A) (hg : Gl X x) (hm : X.mg x = some (.ref f)) (hk : PySem.W.keepIn X.K (.ref f) = true) (hb : Binds X.K fd ps []) (hx : ∀ σ, PassesAt CX X σ (WE W.w σ)) (hdb : (x == ("__debug__" : Str)) = false)
    (ha : PA X (e :: es) (tA X.K W (dArgs fs))) (hl : fs.length = n) (hct : W.ct = ct)
    (he : starEach (e :: es) X.env = (false, eval e X.env) :: starEach es X.env) (hpl : (backTo pos (starEach es X.env)).any (·.1) = false) : PE X (.Call (.Name x p) (e :: es) [] pos) (tF X.K W (fCall g fs)) := by
  refine PE_imp (pe_callS F hr hg hm hk hb hx ha hdb he hpl) fun σ H Q ⟨G, δ, H0, R, q⟩ => ⟨G, δ, H0, R, ?_⟩
  unfold fCall at q
  cases eA : dArgs fs δ with
  | bad => rw [eA] at q; exact q
  | rz c δ1 => rw [eA] at q; exact q
  | ok ds δ1 =>
    rw [eA] at q
    intro vs H1 H' R1 s1 r1
    refine ⟨H1, ds, R1.hs, r1, by rw [dArgs_len eA, hl], ?_⟩
    have q : PoF X.K W G σ H0 (ofDF (g ds) δ1) Q := q
    cases hg : g ds with
    | ok d => rw [hg] at q; exact q.elim
    | ow o =>
      rw [hg] at q
      exact fun a H2 H'' gr n n0 ow => q a H2 H'' (R1.grow gr) (s1.trans gr.h0) n0 (R1.he_none n) ow (R1.own_ne n)
    | okp d o => rw [hg] at q; exact q.elim
    | owp d o => rw [hg] at q; exact q.elim
    | rz c => rw [hg] at q; exact fun cls dd H2 H'' gr x => q cls dd H2 H'' (R1.grow gr) (s1.trans gr.h0) (by rw [hct]; exact x)
    | bad => rw [hg] at q; exact q.elim
/-! ### a call that writes at what the caller owns -/
/-- growth that may write at a -/
structure GrP (a : Addr) (H0 H H0' H' : Hp) : Prop where
  hs : ∀ b u, b ≠ a → H b = some u → H' b = some u
  h0 : Same H0 H0'
  s' : Same H0' H'
  hn : ∀ b, H b ≠ none → H0' b = H0 b
def reOwn (s : Sl) (o' : O) : Sl := match s with
  | .pi _ => .pi o'
  | _ => .ow o'
theorem Rl.growP {K : PySem.W.Frag} {G : Gh} {δ : En} {σ : L2.St} {H0 H H0' H' : Hp} {i : Nat} {a : Addr} {o o' : O} (R : Rl K G δ σ H0 H) (h : ownAt δ i = some o) (hσ : σ[i]? = some (some (V.ref a))) (g : GrP a H0 H H0' H') (w' : OwnAt K H0' H' a o') :
    Rl K G (setOwn δ i o') σ H0' H' := by
  obtain ⟨a', hσ', n0, ne, w⟩ := R.owned h
  rw [hσ] at hσ'; cases hσ'
  have ha : H a ≠ none := w.some_
  obtain ⟨s, hi, hs, e'⟩ : ∃ s, δ[i]? = some s ∧ isOwn s = true ∧ setOwn δ i o' = δ.set i (reOwn s o') := by
    unfold ownAt at h
    unfold setOwn
    split at h
    · rename_i e; exact ⟨_, e, rfl, rfl⟩
    · rename_i e; exact ⟨_, e, rfl, rfl⟩
    · cases h
  rw [e']
  have hl : i < δ.length := (List.getElem?_eq_some_iff.mp hi).1
  have own' : isOwn (reOwn s o') = true := by cases s <;> rfl
  have heH : ∀ b, G.He b ≠ none → H b ≠ none := fun b e q => e (R.he.free q)
  refine ⟨g.s', fun b w e => g.hs b w (ne_of_none e ne) (R.he b w e), R.hf.trans g.h0, fun b e => by rw [g.hn b (heH b e), R.hn b e], by rw [List.length_set, R.len], fun j t x h1 h2 => ?_, fun j k sa sb c ne' e1 e2 o1 o2 f1 f2 => ?_, fun j c hp => ?_⟩
  · by_cases hj : i = j
    · subst hj
      rw [List.getElem?_set_self hl] at h1
      cases h1
      rw [hσ] at h2; cases h2
      have q := R.sl i s _ hi hσ
      cases s with
      | no => cases hs
      | va d => cases hs
      | ow o => exact ⟨a, rfl, by rw [g.hn a ha]; exact n0, ne, w'⟩
      | pi o =>
        obtain ⟨c, e, _, _, _, p⟩ := q
        cases e
        exact ⟨a, rfl, by rw [g.hn a ha]; exact n0, ne, w', p⟩
    · rw [List.getElem?_set_ne hj] at h1
      have q := R.sl j t x h1 h2
      have nea : ∀ c, isOwn t = true → x = some (.ref c) → c ≠ a := fun c ho hx z => by
        subst hx z
        exact R.dj i j _ t c hj hi h1 hs ho hσ h2
      have key : ∀ {c : Addr} {o : O}, c ≠ a → H0 c = none → OwnAt K H0 H c o → H0' c = none ∧ OwnAt K H0' H' c o := fun {c o} hc n w => by
        have ne := w.some_
        refine ⟨by rw [g.hn c ne, n], w.mono g.h0 ?_⟩
        cases q : H c with
        | none => exact absurd q ne
        | some z => exact g.hs c z hc q
      cases t with
      | no => trivial
      | va d => obtain ⟨v, e, r⟩ := q; exact ⟨v, e, r.mono g.h0⟩
      | ow o => obtain ⟨c, e, n, f, w⟩ := q; have k := key (nea c rfl e) n w; exact ⟨c, e, k.1, f, k.2⟩
      | pi o => obtain ⟨c, e, n, f, w, p⟩ := q; have k := key (nea c rfl e) n w; exact ⟨c, e, k.1, f, k.2, p⟩
  · have key : ∀ {j : Nat} {t : Sl}, (δ.set i (reOwn s o'))[j]? = some t → isOwn t = true → ∃ t', δ[j]? = some t' ∧ isOwn t' = true := fun {j t} e o => by
      by_cases hj : i = j
      · subst hj; exact ⟨s, hi, hs⟩
      · rw [List.getElem?_set_ne hj] at e; exact ⟨t, e, o⟩
    obtain ⟨s1, q1, p1⟩ := key e1 o1
    obtain ⟨s2, q2, p2⟩ := key e2 o2
    exact R.dj j k s1 s2 c ne' q1 q2 p1 p2 f1 f2
  · obtain ⟨o, e1, e2⟩ := R.pn j c hp
    by_cases hj : i = j
    · subst hj
      rw [hi] at e1
      cases e1
      exact ⟨o', by rw [List.getElem?_set_self hl]; rfl, e2⟩
    · exact ⟨o, by rw [List.getElem?_set_ne hj]; exact e1, e2⟩
/-- the arguments, the taken thing's place among them left open -/
def dArgsP : List (Option Den) → En → RA
  | [], δ => .ok [] δ
  | none :: fs, δ => bindAA (dArgsP fs δ) fun ds δ2 => .ok (.non :: ds) δ2
  | some f :: fs, δ => consA (f δ) fun d δ1 => bindAA (dArgsP fs δ1) fun ds δ2 => .ok (d :: ds) δ2
inductive RepsP (K : PySem.W.Frag) (v0 : V) (H : Hp) : List (Option Den) → List V → List D → Prop
  | nil : RepsP K v0 H [] [] []
  | skip {fs : List (Option Den)} {vs : List V} {ds : List D} : RepsP K v0 H fs vs ds → RepsP K v0 H (none :: fs) (v0 :: vs) (.non :: ds)
  | cons {f : Den} {fs : List (Option Den)} {v : V} {vs : List V} {d : D} {ds : List D} : Rep K H v d → RepsP K v0 H fs vs ds → RepsP K v0 H (some f :: fs) (v :: vs) (d :: ds)
theorem RepsP.len {K : PySem.W.Frag} {v0 : V} {H : Hp} : ∀ {fs : List (Option Den)} {vs : List V} {ds : List D}, RepsP K v0 H fs vs ds → vs.length = fs.length ∧ ds.length = fs.length
  | _, _, _, .nil => ⟨rfl, rfl⟩
  | _, _, _, .skip r => ⟨by rw [List.length_cons, List.length_cons, r.len.1], by rw [List.length_cons, List.length_cons, r.len.2]⟩
  | _, _, _, .cons _ r => ⟨by rw [List.length_cons, List.length_cons, r.len.1], by rw [List.length_cons, List.length_cons, r.len.2]⟩
theorem RepsP.at {K : PySem.W.Frag} {v0 : V} {H : Hp} : ∀ {fs : List (Option Den)} {vs : List V} {ds : List D}, RepsP K v0 H fs vs ds → ∀ (j : Nat), (fs[j]? = some none → vs[j]? = some v0) ∧ ∀ f v d, fs[j]? = some (some f) → vs[j]? = some v → ds[j]? = some d → Rep K H v d
  | _, _, _, .nil, j => ⟨fun h => by simp at h, fun f v d h => by simp at h⟩
  | _, _, _, .skip r, 0 => ⟨fun _ => rfl, fun f v d h => by simp at h⟩
  | _, _, _, .skip r, j + 1 => ⟨fun h => by simpa using (r.at j).1 (by simpa using h), fun f v d h1 h2 h3 => (r.at j).2 f v d (by simpa using h1) (by simpa using h2) (by simpa using h3)⟩
  | _, _, _, .cons p r, 0 => ⟨fun h => by simp at h, fun f v d h1 h2 h3 => by simp at h2 h3; subst h2 h3; exact p⟩
  | _, _, _, .cons p r, j + 1 => ⟨fun h => by simpa using (r.at j).1 (by simpa using h), fun f v d h1 h2 h3 => (r.at j).2 f v d (by simpa using h1) (by simpa using h2) (by simpa using h3)⟩
def PoAP (K : PySem.W.Frag) (W : Wi) (G : Gh) (σ : L2.St) (v0 : V) (fs : List (Option Den)) (H0 : Hp) (r : RA) (Q : List V → Hp → Prop) : Prop :=
  match r with
  | .ok ds δ => ∀ vs H0' H', Rl K G δ σ H0' H' → Same H0 H0' → RepsP K v0 H0' fs vs ds → Q vs H'
  | .rz c δ => ∀ cls dd H0' H', Rl K G δ σ H0' H' → Same H0 H0' → ExIs K W.ct c cls dd H' → W.w cls dd σ H'
  | .bad => False
def tAP (K : PySem.W.Frag) (W : Wi) (i : Nat) (fs : List (Option Den)) : TA := fun σ H Q => ∃ v0, σ[i]? = some (some v0) ∧ ∃ G δ H0, Rl K G δ σ H0 H ∧ PoAP K W G σ v0 fs H0 (dArgsP fs δ) Q
theorem RepsP.mono {K : PySem.W.Frag} {v0 : V} {H H' : Hp} (s : Same H H') : ∀ {fs : List (Option Den)} {vs : List V} {ds : List D}, RepsP K v0 H fs vs ds → RepsP K v0 H' fs vs ds
  | _, _, _, .nil => .nil
  | _, _, _, .skip r => .skip (r.mono s)
  | _, _, _, .cons p r => .cons (p.mono s) (r.mono s)
theorem map_nil {i : Nat} : PA X [] (tAP X.K W i []) := PA_imp pa_nil fun σ H Q ⟨v0, hσ, G, δ, H0, R, h⟩ => h [] H0 H R (Same.refl _) .nil
theorem map_skip {i : Nat} {x : Str} {p : Pos} {es : List Expr} {fs : List (Option Den)} (hx : PE X (.Name x p) (tVar i)) (hr : PA X es (tAP X.K W i fs)) (hs : starEach (.Name x p :: es) X.env = (false, eval (.Name x p) X.env) :: starEach es X.env) : PA X (.Name x p :: es) (tAP X.K W i (none :: fs)) :=
  PA_imp (pa_cons hx hr hs) fun σ H Q ⟨v0, hσ, G, δ, H0, R, h⟩ => ⟨v0, hσ, v0, hσ, G, δ, H0, R, by
    unfold dArgsP at h
    cases e : dArgsP fs δ with
    | bad => rw [e] at h; exact h
    | rz c δ1 => rw [e] at h; exact h
    | ok ds δ1 =>
      rw [e] at h
      exact fun vs H1 H' R1 s1 r1 => h (v0 :: vs) H1 H' R1 s1 (.skip r1)⟩
theorem map_cons {i : Nat} {e : Expr} {es : List Expr} {f : Den} {fs : List (Option Den)} (ha : PE X e (tM X.K W f)) (hr : PA X es (tAP X.K W i fs)) (hs : starEach (e :: es) X.env = (false, eval e X.env) :: starEach es X.env) : PA X (e :: es) (tAP X.K W i (some f :: fs)) :=
  PA_imp (pa_cons ha hr hs) fun σ H Q ⟨v0, hσ, G, δ, H0, R, h⟩ => ⟨G, δ, H0, R, by
    unfold dArgsP at h
    cases e : f δ with
    | bad => rw [e] at h; exact h
    | rz c δ1 => rw [e] at h; exact h
    | ok d δ1 =>
      rw [e] at h
      intro v H1 H' R1 s1 r1
      refine ⟨v0, hσ, G, δ1, H1, R1, ?_⟩
      have h : PoAP X.K W G σ v0 (some f :: fs) H0 (bindAA (dArgsP fs δ1) fun ds δ2 => .ok (d :: ds) δ2) Q := h
      cases e2 : dArgsP fs δ1 with
      | bad => rw [e2] at h; exact h
      | rz c δ2 => rw [e2] at h; exact fun cls dd H2 H'' R2 s2 x => h cls dd H2 H'' R2 (s1.trans s2) x
      | ok ds δ2 =>
        rw [e2] at h
        exact fun vs H2 H'' R2 s2 r2 => h (v :: vs) H2 H'' R2 (s1.trans s2) (.cons (r1.mono s2) r2)⟩
/-- what a def promises that writes at its parameter q -/
def spP (K : PySem.W.Frag) (n q : Nat) (g : List D → RD) : Sp := fun vs H Q E => ∃ H0 ds a o, Same H0 H ∧ vs.length = n ∧ ds.length = n ∧ vs[q]? = some (.ref a) ∧ ds[q]? = some (ownD o) ∧ H0 a = none ∧ OwnAt K H0 H a o ∧
  (∀ j v d, j ≠ q → vs[j]? = some v → ds[j]? = some d → Rep K H0 v d) ∧
  match g ds with
  | .okp d o' => ∀ v H1 H', GrP a H0 H H1 H' → H1 a = none → OwnAt K H1 H' a o' → Rep K H1 v d → Q v H'
  | .owp r o' => ∀ b H1 H', GrP a H0 H H1 H' → H1 a = none → OwnAt K H1 H' a o' → H b = none → H1 b = none → OwnAt K H1 H' b r → Q (.ref b) H'
  | _ => False
def ofP (r : RD) (i : Nat) (δ : En) : RE :=
  match r with
  | .okp d o => .ok d (setOwn δ i o)
  | .owp r o => .ok (ownD r) (setOwn δ i o)
  | _ => .bad
def ofPF (r : RD) (i : Nat) (δ : En) : RF :=
  match r with
  | .owp r o => .ok r (setOwn δ i o)
  | _ => .bad
def callPK (g : List D → RD) (q i : Nat) (s : Option O) (ds : List D) (δ : En) : RE :=
  match s with
  | some o => ofP (g (ds.set q (ownD o))) i δ
  | none => .bad
def callPKF (g : List D → RD) (q i : Nat) (s : Option O) (ds : List D) (δ : En) : RF :=
  match s with
  | some o => ofPF (g (ds.set q (ownD o))) i δ
  | none => .bad
def dCallP (g : List D → RD) (q i : Nat) (fs : List (Option Den)) : Den := fun δ => match ownAt δ i with
  | some _ => bindA (dArgsP fs δ) fun ds δ1 => callPK g q i (ownAt δ1 i) ds δ1
  | none => .bad
def fCallP (g : List D → RD) (q i : Nat) (fs : List (Option Den)) : FDen := fun δ => match ownAt δ i with
  | some _ => bindAF (dArgsP fs δ) fun ds δ1 => callPKF g q i (ownAt δ1 i) ds δ1
  | none => .bad
/-- only the place q is left open -/
def opens (q : Nat) (fs : List (Option Den)) : Prop := fs[q]? = some none ∧ ∀ j, j ≠ q → fs[j]? ≠ some none
theorem callP_args {K : PySem.W.Frag} {G : Gh} {δ1 : En} {σ : L2.St} {H1 H' : Hp} {q i n : Nat} {v0 : V} {o : O} {fs : List (Option Den)} {vs : List V} {ds : List D} (R1 : Rl K G δ1 σ H1 H') (ho : ownAt δ1 i = some o) (hσ : σ[i]? = some (some v0)) (r : RepsP K v0 H1 fs vs ds) (hq : opens q fs) (hl : fs.length = n) :
    ∃ a, v0 = .ref a ∧ σ[i]? = some (some (V.ref a)) ∧ vs.length = n ∧ (ds.set q (ownD o)).length = n ∧ vs[q]? = some (.ref a) ∧ (ds.set q (ownD o))[q]? = some (ownD o) ∧ H1 a = none ∧ OwnAt K H1 H' a o ∧ (∀ j v d, j ≠ q → vs[j]? = some v → (ds.set q (ownD o))[j]? = some d → Rep K H1 v d) := by
  obtain ⟨a, hσ2, n0, ne, w⟩ := R1.owned ho
  rw [hσ] at hσ2; cases hσ2
  have hql : q < fs.length := (List.getElem?_eq_some_iff.mp hq.1).1
  refine ⟨a, rfl, hσ, by rw [r.len.1, hl], by rw [List.length_set, r.len.2, hl], (r.at q).1 hq.1, List.getElem?_set_self (by rw [r.len.2]; exact hql), n0, w, fun j v d hj h1 h2 => ?_⟩
  rw [List.getElem?_set_ne (Ne.symm hj)] at h2
  have hjl : j < fs.length := by rw [← r.len.1]; exact (List.getElem?_eq_some_iff.mp h1).1
  cases hf : fs[j] with
  | none => exact absurd (by rw [List.getElem?_eq_getElem hjl, hf]) (hq.2 j hj)
  | some f => exact (r.at j).2 f v d (by rw [List.getElem?_eq_getElem hjl, hf]) h1 h2
theorem own_neP {K : PySem.W.Frag} {G : Gh} {δ : En} {σ : L2.St} {H0 H : Hp} {b : Addr} {i : Nat} {o o' : O} (R : Rl K G δ σ H0 H) (n : H b = none) (ho : ownAt δ i = some o) (j : Nat) (s : Sl) (h : (setOwn δ i o')[j]? = some s) (hs : isOwn s = true) : σ[j]? ≠ some (some (V.ref b)) := by
  have key : ∃ t, δ[j]? = some t ∧ isOwn t = true := by
    unfold ownAt at ho
    unfold setOwn at h
    split at ho
    · rename_i e
      simp only [e] at h
      by_cases hj : i = j
      · subst hj; exact ⟨_, e, rfl⟩
      · rw [List.getElem?_set_ne hj] at h; exact ⟨_, h, hs⟩
    · rename_i e
      simp only [e] at h
      by_cases hj : i = j
      · subst hj; exact ⟨_, e, rfl⟩
      · rw [List.getElem?_set_ne hj] at h; exact ⟨_, h, hs⟩
    · cases ho
  obtain ⟨t, e1, e2⟩ := key
  exact R.own_ne n j t e1 e2
theorem me_callP {CX : CXT} {k : Nat} {f : Addr} {fd : FuncData} {ps : List Str} {n q i : Nat} {x : Str} {p : Pos} {e : Expr} {es : List Expr} {g : List D → RD} {fs : List (Option Den)}
    (F : FnOk X.prog X.w X.K X.mg X.base CX k f fd ps (spP X.K n q g)) (hr : Room k X.A) (hg : Gl X x) (hm : X.mg x = some (.ref f)) (hk : PySem.W.keepIn X.K (.ref f) = true) (hb : Binds X.K fd ps []) (hx : ∀ σ, PassesAt CX X σ (WE W.w σ)) (hdb : (x == ("__debug__" : Str)) = false)
    (ha : PA X (e :: es) (tAP X.K W i fs)) (hl : fs.length = n) (hq : opens q fs)
    (he : starEach (e :: es) X.env = (false, eval e X.env) :: starEach es X.env) (hpl : (backTo pos (starEach es X.env)).any (·.1) = false) : PE X (.Call (.Name x p) (e :: es) [] pos) (tM X.K W (dCallP g q i fs)) := by
  refine PE_imp (pe_callS F hr hg hm hk hb hx ha hdb he hpl) fun σ H Q ⟨G, δ, H0, R, z⟩ => ?_
  unfold dCallP at z
  split at z
  · rename_i o0 e0
    obtain ⟨a0, hσ, _⟩ := R.owned e0
    refine ⟨_, hσ, G, δ, H0, R, ?_⟩
    cases eA : dArgsP fs δ with
    | bad => rw [eA] at z; exact z
    | rz c δ1 => rw [eA] at z; exact z
    | ok ds δ1 =>
      rw [eA] at z
      intro vs H1 H' R1 s1 r1
      have z : PoE X.K W G σ H0 (callPK g q i (ownAt δ1 i) ds δ1) Q := z
      cases ho : ownAt δ1 i with
      | none => rw [ho] at z; exact z.elim
      | some o =>
        rw [ho] at z
        have z : PoE X.K W G σ H0 (ofP (g (ds.set q (ownD o))) i δ1) Q := z
        obtain ⟨a, h0, h1, h2, h3, h4, h5, h6, h7, h8⟩ := callP_args R1 ho hσ r1 hq hl
        refine ⟨H1, ds.set q (ownD o), a, o, R1.hs, h2, h3, h4, h5, h6, h7, h8, ?_⟩
        cases hg : g (ds.set q (ownD o)) with
        | okp d o' => rw [hg] at z; exact fun v H2 H'' gr n0 w' r => z v H2 H'' (R1.growP ho h1 gr w') (s1.trans gr.h0) r
        | owp b o' => rw [hg] at z; exact fun v H2 H'' gr n0 w' nb nb1 wb => read_in z (R1.growP ho h1 gr w') (s1.trans gr.h0) nb1 (R1.he_none nb) wb (own_neP R1 nb ho)
        | ok d => rw [hg] at z; exact z.elim
        | ow d => rw [hg] at z; exact z.elim
        | rz c => rw [hg] at z; exact z.elim
        | bad => rw [hg] at z; exact z.elim
  · exact z.elim
/-! ### a call that only reads a list that one owns -/
mutual
/-- no list within -/
def flat : D → Bool
  | .non => true
  | .bl _ => true
  | .int _ => true
  | .str _ => true
  | .tup ds => flats ds
  | _ => false
def flats : List D → Bool
  | [] => true
  | d :: ds => flat d && flats ds
end
/-- the heap without one address -/
def del (H : Hp) (a : Addr) : Hp := fun b => if b = a then none else H b
theorem del_same {H : Hp} {a : Addr} : del H a a = none := if_pos rfl
theorem del_ne {H : Hp} {a b : Addr} (h : b ≠ a) : del H a b = H b := if_neg h
theorem SqT.del {K : PySem.W.Frag} {H : Hp} {a b : Addr} {us xs : List V} (ha : H a = some (.lst us)) (h : SqT K H b xs) : SqT K (del H a) b xs := by
  rcases h with (h | ⟨o, h⟩) | h
  · have hb : b ≠ a := fun z => by subst z; rw [ha] at h; cases h
    exact .inl (.inl (by rw [del_ne hb]; exact h))
  · have hb : b ≠ a := fun z => by subst z; rw [ha] at h; cases h
    exact .inl (.inr ⟨o, by rw [del_ne hb]; exact h⟩)
  · exact .inr h
mutual
theorem Rep.del {K : PySem.W.Frag} {H : Hp} {a : Addr} {us : List V} (ha : H a = some (.lst us)) : ∀ {v : V} {d : D}, Rep K H v d → flat d = true → Rep K (del H a) v d
  | _, _, .non, _ => .non
  | _, _, .bl b, _ => .bl b
  | _, _, .int i, _ => .int i
  | _, _, .str x, _ => .str x
  | _, _, .tup h r, f => .tup (SqT.del ha h) (Reps.del ha r (by unfold flat at f; exact f))
  | _, _, .lst _ _, f => by unfold flat at f; cases f
  | _, _, .dic _ _ _ _, f => by unfold flat at f; cases f
  | _, _, .exc _ _, f => by unfold flat at f; cases f
theorem Reps.del {K : PySem.W.Frag} {H : Hp} {a : Addr} {us : List V} (ha : H a = some (.lst us)) : ∀ {vs : List V} {ds : List D}, Reps K H vs ds → flats ds = true → Reps K (del H a) vs ds
  | _, _, .nil, _ => .nil
  | _, _, .cons h r, f => by
    unfold flats at f
    rw [Bool.and_eq_true] at f
    exact .cons (Rep.del ha h f.1) (Reps.del ha r f.2)
end
def flatR (r : RD) (δ : En) : RE :=
  match r with
  | .ok d => if flat d = true then .ok d δ else .bad
  | .ow (.lst es) => if flats es = true then .ok (.lst es) δ else .bad
  | .rz ⟨c, []⟩ => .rz ⟨c, []⟩ δ
  | _ => .bad
def callBK (g : List D → RD) (q : Nat) (s : Option O) (ds : List D) (δ : En) : RE :=
  match s with
  | some (.lst es) => flatR (g (ds.set q (.lst es))) δ
  | _ => .bad
def dCallB (g : List D → RD) (q i : Nat) (fs : List (Option Den)) : Den := fun δ => match ownAt δ i with
  | some _ => bindA (dArgsP fs δ) fun ds δ1 => callBK g q (ownAt δ1 i) ds δ1
  | none => .bad
theorem Gr.thaw {H0 H H1 H' : Hp} {a : Addr} {u : HO} (s : Same H0 H) (n0 : H0 a = none) (hu : H a = some u) (g : Gr (upd H0 a u) H H1 H') : Gr H0 H (del H1 a) H' where
  hs := g.hs
  h0 := fun b o e => by
    have hb : b ≠ a := fun z => by subst z; rw [n0] at e; cases e
    rw [del_ne hb]
    exact g.h0 b o (by rw [upd_ne hb]; exact e)
  s' := fun b o e => by
    by_cases hb : b = a
    · subst hb; rw [del_same] at e; cases e
    · rw [del_ne hb] at e; exact g.s' b o e
  hn := fun b e => by
    by_cases hb : b = a
    · subst hb; rw [del_same, n0]
    · rw [del_ne hb, g.hn b e, upd_ne hb]
theorem me_callB {CX : CXT} {k : Nat} {f : Addr} {fd : FuncData} {ps : List Str} {n q i : Nat} {ct : Nat → Addr} {x : Str} {p : Pos} {e : Expr} {es : List Expr} {g : List D → RD} {fs : List (Option Den)}
    (F : FnOk X.prog X.w X.K X.mg X.base CX k f fd ps (spD X.K ct n g)) (hr : Room k X.A) (hg : Gl X x) (hm : X.mg x = some (.ref f)) (hk : PySem.W.keepIn X.K (.ref f) = true) (hb : Binds X.K fd ps []) (hx : ∀ σ, PassesAt CX X σ (WE W.w σ)) (hdb : (x == ("__debug__" : Str)) = false)
    (ha : PA X (e :: es) (tAP X.K W i fs)) (hl : fs.length = n) (hct : W.ct = ct) (hq : opens q fs)
    (he : starEach (e :: es) X.env = (false, eval e X.env) :: starEach es X.env) (hpl : (backTo pos (starEach es X.env)).any (·.1) = false) : PE X (.Call (.Name x p) (e :: es) [] pos) (tM X.K W (dCallB g q i fs)) := by
  refine PE_imp (pe_callS F hr hg hm hk hb hx ha hdb he hpl) fun σ H Q ⟨G, δ, H0, R, z⟩ => ?_
  unfold dCallB at z
  split at z
  · rename_i o0 e0
    obtain ⟨a0, hσ, _⟩ := R.owned e0
    refine ⟨_, hσ, G, δ, H0, R, ?_⟩
    cases eA : dArgsP fs δ with
    | bad => rw [eA] at z; exact z
    | rz c δ1 => rw [eA] at z; exact z
    | ok ds δ1 =>
      rw [eA] at z
      intro vs H1 H' R1 s1 r1
      have z : PoE X.K W G σ H0 (callBK g q (ownAt δ1 i) ds δ1) Q := z
      cases ho : ownAt δ1 i with
      | none => rw [ho] at z; exact z.elim
      | some o =>
        rw [ho] at z
        cases o with
        | dic _ _ => exact z.elim
        | lst es' =>
          have z : PoE X.K W G σ H0 (flatR (g (ds.set q (.lst es'))) δ1) Q := z
          obtain ⟨a, h0, h1, h2, h3, h4, h5, h6, h7, h8⟩ := callP_args R1 ho hσ r1 hq hl
          obtain ⟨us, hu, rus⟩ := h7
          have sf : Same H1 (upd H1 a (.lst us)) := fun b u e => by rw [upd_ne (ne_of_none e h6)]; exact e
          have sf2 : Same (upd H1 a (.lst us)) H' := fun b u e => by
            by_cases hb' : b = a
            · subst hb'; rw [upd_same] at e; cases e; exact hu
            · rw [upd_ne hb'] at e; exact R1.hs b u e
          have rr : Reps X.K (upd H1 a (.lst us)) vs (ds.set q (.lst es')) := by
            have lv : vs.length = (ds.set q (.lst es')).length := by rw [h2]; exact h3.symm
            have key : ∀ (vs : List V) (ds : List D), vs.length = ds.length → (∀ (j : Nat) (v : V) (d : D), vs[j]? = some v → ds[j]? = some d → Rep X.K (upd H1 a (.lst us)) v d) → Reps X.K (upd H1 a (.lst us)) vs ds := by
              intro vs
              induction vs with
              | nil => intro ds l _; cases ds with
                | nil => exact .nil
                | cons _ _ => cases l
              | cons v vs ih => intro ds l h; cases ds with
                | nil => cases l
                | cons d ds => exact .cons (h 0 v d rfl rfl) (ih ds (by simpa using l) fun j v d a b => h (j + 1) v d (by simpa using a) (by simpa using b))
            refine key _ _ lv fun j v d e1 e2 => ?_
            by_cases hj : j = q
            · subst hj
              rw [h4] at e1
              have h5' : (ds.set j (.lst es'))[j]? = some (.lst es') := h5
              rw [h5'] at e2
              cases e1; cases e2
              exact .lst (.inl (.inl upd_same)) (rus.mono sf)
            · exact (h8 j v d hj e1 e2).mono sf
          refine ⟨upd H1 a (.lst us), ds.set q (.lst es'), sf2, rr, by rw [← hl]; exact h3.trans hl.symm, ?_⟩
          have thaw : ∀ {H2 H'' : Hp}, Gr (upd H1 a (.lst us)) H' H2 H'' → Gr H1 H' (del H2 a) H'' ∧ H2 a = some (.lst us) := fun gr => ⟨Gr.thaw R1.hs h6 hu gr, gr.h0 a _ upd_same⟩
          cases hg' : g (ds.set q (.lst es')) with
          | ok d =>
            rw [hg'] at z
            have z : PoE X.K W G σ H0 (if flat d = true then .ok d δ1 else .bad) Q := z
            split at z
            · rename_i hf
              exact fun v H2 H'' gr r => z v _ H'' (R1.grow (thaw gr).1) (s1.trans (thaw gr).1.h0) (Rep.del (thaw gr).2 r hf)
            · exact z.elim
          | ow o =>
            rw [hg'] at z
            cases o with
            | dic _ _ => exact z.elim
            | lst ws =>
              have z : PoE X.K W G σ H0 (if flats ws = true then .ok (.lst ws) δ1 else .bad) Q := z
              split at z
              · rename_i hf
                intro b H2 H'' gr nb nb1 wb
                obtain ⟨t1, t2⟩ := thaw gr
                obtain ⟨ys, hy, ry⟩ := wb
                refine read_in (o := .lst ws) z (R1.grow t1) (s1.trans t1.h0) ?_ (R1.he_none nb) ⟨ys, hy, Reps.del t2 ry hf⟩ (R1.own_ne nb)
                by_cases hb' : b = a
                · subst hb'; exact del_same
                · rw [del_ne hb']; exact nb1
              · exact z.elim
          | rz c =>
            rw [hg'] at z
            obtain ⟨c, pl⟩ := c
            cases pl with
            | cons _ _ => exact z.elim
            | nil =>
              intro cls dd H2 H'' gr ex
              obtain ⟨t1, t2⟩ := thaw gr
              subst hct
              refine z cls dd _ H'' (R1.grow t1) (s1.trans t1.h0) ?_
              exact ex
          | okp d o' => rw [hg'] at z; exact z.elim
          | owp b o' => rw [hg'] at z; exact z.elim
          | bad => rw [hg'] at z; exact z.elim
  · exact z.elim
theorem mf_callP {CX : CXT} {k : Nat} {f : Addr} {fd : FuncData} {ps : List Str} {n q i : Nat} {x : Str} {p : Pos} {e : Expr} {es : List Expr} {g : List D → RD} {fs : List (Option Den)}
    (F : FnOk X.prog X.w X.K X.mg X.base CX k f fd ps (spP X.K n q g)) (hr : Room k X.A) (hg : Gl X x) (hm : X.mg x = some (.ref f)) (hk : PySem.W.keepIn X.K (.ref f) = true) (hb : Binds X.K fd ps []) (hx : ∀ σ, PassesAt CX X σ (WE W.w σ)) (hdb : (x == ("__debug__" : Str)) = false)
    (ha : PA X (e :: es) (tAP X.K W i fs)) (hl : fs.length = n) (hq : opens q fs)
    (he : starEach (e :: es) X.env = (false, eval e X.env) :: starEach es X.env) (hpl : (backTo pos (starEach es X.env)).any (·.1) = false) : PE X (.Call (.Name x p) (e :: es) [] pos) (tF X.K W (fCallP g q i fs)) := by
  refine PE_imp (pe_callS F hr hg hm hk hb hx ha hdb he hpl) fun σ H Q ⟨G, δ, H0, R, z⟩ => ?_
  unfold fCallP at z
  split at z
  · rename_i o0 e0
    obtain ⟨a0, hσ, _⟩ := R.owned e0
    refine ⟨_, hσ, G, δ, H0, R, ?_⟩
    cases eA : dArgsP fs δ with
    | bad => rw [eA] at z; exact z
    | rz c δ1 => rw [eA] at z; exact z
    | ok ds δ1 =>
      rw [eA] at z
      intro vs H1 H' R1 s1 r1
      have z : PoF X.K W G σ H0 (callPKF g q i (ownAt δ1 i) ds δ1) Q := z
      cases ho : ownAt δ1 i with
      | none => rw [ho] at z; exact z.elim
      | some o =>
        rw [ho] at z
        have z : PoF X.K W G σ H0 (ofPF (g (ds.set q (ownD o))) i δ1) Q := z
        obtain ⟨a, h0, h1, h2, h3, h4, h5, h6, h7, h8⟩ := callP_args R1 ho hσ r1 hq hl
        refine ⟨H1, ds.set q (ownD o), a, o, R1.hs, h2, h3, h4, h5, h6, h7, h8, ?_⟩
        cases hg : g (ds.set q (ownD o)) with
        | okp d o' => rw [hg] at z; exact z.elim
        | owp b o' => rw [hg] at z; exact fun v H2 H'' gr n0 w' nb nb1 wb => z v H2 H'' (R1.growP ho h1 gr w') (s1.trans gr.h0) nb1 (R1.he_none nb) wb (own_neP R1 nb ho)
        | ok d => rw [hg] at z; exact z.elim
        | ow d => rw [hg] at z; exact z.elim
        | rz c => rw [hg] at z; exact z.elim
        | bad => rw [hg] at z; exact z.elim
  · exact z.elim
end
end Z

namespace Z
open PySem PySem.Spec PyProof.Rows L2
section
variable {X : Cx} {W : Wi} {pos : Pos}
/-! ### a new list times a number -/
theorem Reps.rep {K : PySem.W.Frag} {H : Hp} {vs : List V} {ds : List D} (r : Reps K H vs ds) : ∀ m : Nat, Reps K H (List.replicate m vs).flatten (List.replicate m ds).flatten
  | 0 => .nil
  | m + 1 => by
    rw [List.replicate_succ, List.replicate_succ, List.flatten_cons, List.flatten_cons]
    exact r.append (Reps.rep r m)
def repK (n : Int) : RF → RF
  | .ok (.lst ds) δ => if 0 ≤ n ∧ n < 1000000 ∧ ds.length * n.toNat ≤ 1000000 then .ok (.lst (List.replicate n.toNat ds).flatten) δ else .bad
  | .rz c δ => .rz c δ
  | _ => .bad
def fRep (f : FDen) (n : Int) : FDen := fun δ => repK n (f δ)
theorem mf_rep {a : Expr} {f : FDen} {n : Int} {j : Nat} {p2 : Pos} (ha : PE X a (tF X.K W f)) : PE X (.BinOp a .Mult (.Constant (.int n) j p2) pos) (tF X.K W (fRep f n)) :=
  PE_imp (pe_op op_rep ha pe_int) fun σ H Q ⟨G, δ, H0, R, q⟩ => ⟨G, δ, H0, R, by
    unfold fRep at q
    cases e : f δ with
    | bad => rw [e] at q; exact q.elim
    | rz c δ1 => rw [e] at q; exact q
    | ok o δ1 =>
      rw [e] at q
      cases o with
      | dic ks ds => exact q.elim
      | lst ds =>
        have q : PoF X.K W G σ H0 (if 0 ≤ n ∧ n < 1000000 ∧ ds.length * n.toNat ≤ 1000000 then .ok (.lst (List.replicate n.toNat ds).flatten) δ1 else .bad) Q := q
        by_cases c : 0 ≤ n ∧ n < 1000000 ∧ ds.length * n.toNat ≤ 1000000
        · rw [if_pos c] at q
          intro a H0' H' R' s n0 ne w nw
          obtain ⟨vs, hv, rv⟩ := w
          exact ⟨a, n, vs, rfl, rfl, hv, by omega, by omega, by rw [rv.length]; exact sz_le c.2.2, fun p hp => (q.up s).laid R' hp ⟨_, upd_same, rv.rep _⟩⟩
        · rw [if_neg c] at q
          exact q.elim⟩
/-! ### isinstance(e, (T, U)) -/
def isi2K (t u : String) (d : D) : Option D :=
  match kitB (tyD d) t with
  | some true => some (.bl true)
  | some false => (kitB (tyD d) u).map .bl
  | none => none
def isi2D (t u : String) (d : D) : Option D := if isExc d then none else isi2K t u d
theorem me_isi2 {t1 t2 : String} {n1 n2 : Str} {p p1 p2 p3 : Pos} {k : Nat} {e : Expr} {f : Den} (ha : PE X e (tM X.K W f)) (hg : Gl X "isinstance") (hm : X.mg "isinstance" = none)
    (g1 : Gl X n1) (m1 : X.mg n1 = none) (v1 : bootBuiltins n1 = some (.type t1)) (nn1 : n1 ≠ "__name__") (d1 : (n1 == ("__debug__" : Str)) = false)
    (g2 : Gl X n2) (m2 : X.mg n2 = none) (v2 : bootBuiltins n2 = some (.type t2)) (nn2 : n2 ≠ "__name__") (d2 : (n2 == ("__debug__" : Str)) = false)
    (he : starEach (e :: [.Tuple [.Name n1 p1, .Name n2 p2] k p3]) X.env = (false, eval e X.env) :: starEach [.Tuple [.Name n1 p1, .Name n2 p2] k p3] X.env) :
    PE X (.Call (.Name "isinstance" p) [e, .Tuple [.Name n1 p1, .Name n2 p2] k p3] [] pos) (tM X.K W (dUn (isi2D t1 t2) f)) := by
  have h1 : PE X (.Name n1 p1) (tC (.ty t1)) := pe_bltn g1 m1 v1 rfl nn1 d1
  have h2 : PE X (.Name n2 p2) (tC (.ty t2)) := pe_bltn g2 m2 v2 rfl nn2 d2
  have hT := pe_tup (x1 := k) (pos := p3) (pa_cons h1 (pa_cons h2 pa_nil rfl) rfl)
  refine PE_imp (pe_callB call_isiT hg hm boot_isinstance (pa_cons ha (pa_cons hT pa_nil rfl) he) (by decide +kernel) (by decide +kernel) he rfl) fun σ H Q ⟨G, δ, H0, R, h⟩ => ⟨G, δ, H0, R, PoE.bind h fun d δ1 v H01 H1 R1 s1 r1 h1 => ?_⟩
  obtain ⟨z, hz, h3⟩ := ofO_some h1
  refine ⟨show 2 ≤ sizeLine by decide, fun q hq => ?_⟩
  have g := Gr.lay (o := .tup [.ty t1, .ty t2]) R1.hs hq
  have R2 := R1.grow g
  unfold isi2D at hz
  split at hz
  · cases hz
  rename_i ne
  have ne : isExc d = false := by simpa using ne
  unfold isi2K at hz
  have key : ∀ b : Bool, z = .bl b → PySem.W.kitAny X.K (.type (tyD d)) [.type t1, .type t2] = some b → rIsiT X.K [v, .ref q] (upd H1 q (.tup [.ty t1, .ty t2])) Q := fun b ez hk => by
    subst ez
    exact ⟨v, q, _, _, _, b, rfl, upd_same, .cons (.ty _) (.cons (.ty _) .nil), r1.tyx R2.hs ne, hk, h3.val R2 (.bl _)⟩
  split at hz
  · rename_i hk
    cases hz
    exact key true rfl (kitAny_cons (kit_ty hk) (fun e => by cases e) fun _ => rfl)
  · rename_i hk
    cases hk2 : kitB (tyD d) t2 with
    | none => rw [hk2] at hz; cases hz
    | some b =>
      rw [hk2] at hz
      cases hz
      cases b with
      | true => exact key true rfl (kitAny_cons (kit_ty hk) (fun _ => kitAny_cons (kit_ty hk2) (fun e => by cases e) fun _ => rfl) fun e => by cases e)
      | false => exact key false rfl (kitAny_cons (kit_ty hk) (fun _ => kitAny_cons (kit_ty hk2) (fun _ => kitAny_nil) fun e => by cases e) fun e => by cases e)
  · cases hz
end
end Z

namespace Z
open PySem PySem.Spec PyProof.Rows L2
/-! ### where an exception is being handled -/
/-- the handled exception was locked ahead of the entry; its context is None -/
def HotX (X : Cx) : Prop := ∃ (x : Addr) (oe : Obj) (vs : Array Value), X.A.handled = some (.ref x) ∧ X.H_0 x = some (exT oe) ∧ oe.data = .fields vs ∧ vs[2]? = some .none
theorem exT_get {P : Program} {w : World} {H : Hp} {h : Heap} {a : Addr} {oe : Obj} (x : HOk P w H h) (e : H a = some (exT oe)) : h.get? a = some oe := by
  obtain ⟨q, _⟩ := (show ObjOk P w H h a (exT oe) from x a _ e)
  exact q
section
variable {X : Cx} {pins : List (Addr × Obj)} {σ : L2.St} {H : Hp} {s : Shared}
theorem HotX.here (hx : HotX X) (I : Inv X pins σ H s) : ∃ x oe vs, X.A.handled = some (.ref x) ∧ H x = some (exT oe) ∧ s.heap.get? x = some oe ∧ oe.data = .fields vs ∧ vs[2]? = some .none := by
  obtain ⟨x, oe, vs, h1, h2, h3, h4⟩ := hx
  have e := I.base.frzs x oe _ h2
  exact ⟨x, oe, vs, h1, e, exT_get I.hok e, h3, h4⟩
theorem HotX.at (hx : HotX X) (I : Inv X pins σ H s) : ∃ x, _root_.HotX.HotAt X.A x s.heap := by
  obtain ⟨x, oe, vs, h1, _, h2, h3, h4⟩ := hx.here I
  exact ⟨x, h1, oe, vs, h2, h3, h4⟩
end
end Z
namespace Z
open PySem PySem.Spec PyProof.Rows L2
section
variable {X : Cx} {pins : List (Addr × Obj)} {σ : L2.St} {H : Hp} {s : Shared} {a : Addr} {oe : Obj}
/-- an object of no concern to the frame, new since the entry, is locked as it stands -/
theorem Inv.lock (I : Inv X pins σ H s) (ea : s.heap.get? a = some oe) (n0 : X.s_0.heap.get? a = none) (na : H a = none) (nL : a ≠ X.env.locals) (nc : ∀ x c, X.env.cells.lookup x = some c → a ≠ c) (np : ∀ p ∈ X.pn ++ pins, a ≠ p.1) :
    Inv X pins σ (upd H a (exT oe)) s := by
  have old : ∀ {b : Addr} {o : HO}, H b = some o → upd H a (exT oe) b = some o := fun e => by rw [upd_ne (ne_of_none e na)]; exact e
  have ne0 : ∀ {b : Addr} {o : Obj}, X.s_0.heap.get? b = some o → b ≠ a := fun e z => by rw [z, n0] at e; cases e
  refine { I with base := { I.base with free := fun b o e n hx => ?_, tups := fun b xs e => old (I.base.tups b xs e), frzs := fun b o u e => old (I.base.frzs b o u e), tbls := fun b ps e => ?_ }, free := ?_, freeC := fun x c e => ?_, pin := fun p hp => ?_, hok := fun b u e => ?_ }
  · rw [upd_ne (ne0 e)]; exact I.base.free b o e n hx
  · obtain ⟨m, q⟩ := I.base.tbls b ps e
    exact ⟨m, old q⟩
  · rw [upd_ne (Ne.symm nL)]; exact I.free
  · rw [upd_ne (Ne.symm (nc x c e))]; exact I.freeC x c e
  · obtain ⟨k1, k2, k3⟩ := I.pin p hp
    exact ⟨k1, by rw [upd_ne (Ne.symm (np p hp))]; exact k2, k3⟩
  · by_cases hb : b = a
    · subst hb
      rw [upd_same] at e
      cases e
      exact ⟨ea, True.intro, ⟨oe, ea⟩, fun _ _ _ _ => True.intro⟩
    · rw [upd_ne hb] at e
      exact (I.hok b u e).stay (fun _ _ _ q => q) (fun _ q => old q) fun _ _ q => old q
end
/-! ### a list comprehension over range, where an exception is being handled -/
section
variable {X : Cx}
theorem HotX.blk {hs : Shared} {H : Hp} {scope : Scope} {ce : Env} {fp : List Addr} {x : Addr} {oe : Obj} {vs : Array Value} (h1 : X.A.handled = some (.ref x)) (h2 : H x = some (exT oe)) (h3 : oe.data = .fields vs) (h4 : vs[2]? = some .none) : HotX (X.blk hs H scope ce fp) :=
  ⟨x, oe, vs, h1, h2, h3, h4⟩
/-- the turns: B the block's context, it the range's iterator, D the new list -/
theorem lcT_loop {B : Cx} {elt tg iter : Expr} {ifs : List Expr} {scope : Scope} {pos : Pos} {it D : Addr} {n : Nat} {ω σ : L2.St} {vs : List Nat} {g : TG} {tt : TT} {te : TE} {Q : VK} {Wm : Nat → Nat → Hp → Prop} {Rr : Result → Shared → Prop}
    (hx : HotX B) (hex : B.ex = [it]) (hpn : B.pn = []) (hef : it ≠ B.env.locals) (hfs : it ∉ B.fs) (hcl : ∀ x c, B.env.cells.lookup x = some c → c ≠ it) (hxe : B.xe = fun _ _ => False) (hω : ω = wipe σ vs)
    (pg : PG B tg g) (pt : PTs B ifs tt) (pe : PE B elt te)
    (turn : ∀ i m H, Wm i m H → ((Itr 0 n).stop i H ∧ Q (.ref D) H) ∨ ((Itr 0 n).go i H ∧ ∃ Nx : Hp → Prop, (∀ H', Nx H' → ∃ m', m' < m ∧ Wm (i + 1) m' H') ∧ ∀ x H', (Itr 0 n).yld i H x H' → g x (wipe σ vs) H' fun σ2 H2 => wipe σ2 vs = wipe σ vs ∧ tt σ2 H2 fun b H3 =>
      if b = true then te σ2 H3 fun y H4 => ∃ acc, H4 D = some (.lst acc) ∧ acc.length < sizeLine ∧ Nx (upd H4 D (.lst (acc ++ [y]))) else Nx H3))
    (done : ∀ s' H', Inv B [] ω H' s' → Q (.ref D) H' → Rr (.ok .next) s') (m : Nat) {H : Hp} {s : Shared} (I : Inv B [] ω H s) (st : IsRangeIter s.heap it 0 n 1) (hn : H it = none) (w : Wm 0 m H) :
    codeAny (model B.prog B.w) B.A (.compLoop (.ListComp elt [⟨tg, iter, ifs, 0⟩] scope pos) 0 (.ref it) (.ref D) B.env) Rr s := by
  have fp : ∀ {H' : Hp}, H' it = none → ∀ b ∈ [it], FpOk B [] H' b := fun e b hb => by
    obtain rfl : b = it := by simpa using hb
    exact ⟨e, hef, hfs, .inl (by rw [hex]; exact hb), hcl, fun p hp => by rw [hpn] at hp; cases hp⟩
  have noE : ∀ {P : Prop} {e : Value} {s' : Shared}, B.xe e s' → P := fun z => by rw [hxe] at z; exact z.elim
  refine compLoop_any (fun k s' => ∃ i H', Inv B [] ω H' s' ∧ IsRangeIter s'.heap it (i : Nat) ((n : Int) - (i : Nat)) 1 ∧ H' it = none ∧ Wm i k H') ?_ m ⟨0, H, I, by simpa using st, hn, w⟩
  rintro k s1 ⟨i, H1, I1, st1, n1, w1⟩
  rcases turn i k H1 w1 with ⟨stop, q⟩ | ⟨go, Nx, less, step⟩
  · obtain ⟨x, hot⟩ := hx.at I1
    have hs : n ≤ i := stop
    exact HotX.pyNext_range_end_hot hot st1 (by omega) fun h' keep => done _ _ (I1.turned (t' := s1.toks) (fun b o _ e => keep b o e) n1 hef (.inl (by rw [hex]; simp)) hcl fun p hp => by rw [hpn] at hp; cases hp) q
  · have hg : i < n := go
    refine wpAny_pyNext_range_item st1 (by omega) fun h' st2 same => ?_
    have I2 : Inv B [] ω H1 { s1 with heap := h', toks := s1.toks + 1 } := I1.turned (fun b o hb e => (same.2 b hb).trans e) n1 hef (.inl (by rw [hex]; simp)) hcl fun p hp => by rw [hpn] at hp; cases hp
    have I3 := I2.pinned (fp n1) fun b hb => by
      obtain rfl : b = it := by simpa using hb
      exact ⟨_, st2, fun v z => by cases z⟩
    refine go_of (s := { s1 with heap := h', toks := s1.toks + 1 }) (n := "range_iterator") st2 rfl rfl (by decide) ?_
    have yl : (Itr 0 n).yld i H1 (.int (i : Nat)) H1 := ⟨rfl, by simp⟩
    have start := step _ _ yl
    rw [← hω] at start
    refine wpAny_mono (pg.run _ _ ω H1 (.int (i : Nat)) _ _ I3 ⟨s1.toks, rfl⟩ start) (fun _ s3 ⟨σ3, H3, I4, e3, q3⟩ => ?_) fun _ _ z => noE z
    have back : ∀ {s' : Shared} {H' : Hp}, Inv B ([] ++ pinsAt [it] h') σ3 H' s' → Nx H' → ∃ m', m' < k ∧ ∃ i H', Inv B [] ω H' s' ∧ IsRangeIter s'.heap it (i : Nat) ((n : Int) - (i : Nat)) 1 ∧ H' it = none ∧ Wm i m' H' := fun {s' H'} J nx => by
      obtain ⟨m', lt, w'⟩ := less H' nx
      obtain ⟨p1, p2, _⟩ := J.pin (it, _) (List.mem_append_right _ (List.mem_append_right _ (mem_pinsAt (by simp) st2)))
      refine ⟨m', lt, i + 1, H', (J.unpinned (pins := [])).weak (by rw [← e3, wipe_length]) (fun j v e => ?_), ?_, p2, w'⟩
      · rw [← e3] at e
        exact (wipe_some e).1
      · have e1 : ((i + 1 : Nat) : Int) = (i : Int) + 1 := by omega
        have e2 : (n : Int) - ((i + 1 : Nat) : Int) = (n : Int) - (i : Int) - 1 := by omega
        rw [e2, e1]
        exact p1
    refine wpAny_mono (pt.run _ s3 σ3 H3 _ I4 q3) (fun b s4 ⟨H4, I5, q4⟩ => ?_) fun _ _ z => noE z
    cases b with
    | false =>
      simp only [Bool.false_eq_true, if_false] at q4 ⊢
      exact back I5 q4
    | true =>
      simp only [if_true] at q4 ⊢
      refine wpAny_mono (pe.run _ s4 σ3 H4 _ I5 q4) (fun z s5 ⟨y, H5, I6, r5, acc, e5, l5, nx⟩ => ?_) fun _ _ z => noE z
      exact app_ok (X := B) I6 e5 l5 r5 fun s6 I7 => back I7 nx
theorem lcT_rest {elt tg iter : Expr} {ifs : List Expr} {scope : Scope} {own : List (Str × Nat)} {pos : Pos} {g : TG} {tt : TT} {te : TE} {pins : List (Addr × Obj)} {σ : L2.St} {H : Hp} {s : Shared} {Q : VK} {it : Addr} {n : Nat} (hx : HotX X) (hN : X.N.Nodup)
    (ok : BlkOk X.N X.env.scope scope own) (hg : ∀ (s : Shared) (H : Hp) (C : Addr) (cl : List (Str × Addr)) (fp : List Addr), PG (X.blk s H scope (compEnvC scope cl C X.env) fp) tg g)
    (ht : ∀ (s : Shared) (H : Hp) (C : Addr) (cl : List (Str × Addr)) (fp : List Addr), PTs (X.blk s H scope (compEnvC scope cl C X.env) fp) ifs tt) (he : ∀ (s : Shared) (H : Hp) (C : Addr) (cl : List (Str × Addr)) (fp : List Addr), PE (X.blk s H scope (compEnvC scope cl C X.env) fp) elt te)
    (I : Inv X pins σ H s) (st : IsRangeIter s.heap it 0 n 1) (hf : FpOk X pins H it)
    (h : ∀ D, H D = none → ∃ W : Nat → Nat → Hp → Prop, (∃ m, W 0 m (upd H D (.lst []))) ∧ ∀ i m H, W i m H → ((Itr 0 n).stop i H ∧ Q (.ref D) H) ∨ ((Itr 0 n).go i H ∧ ∃ Nx : Hp → Prop, (∀ H', Nx H' → ∃ m', m' < m ∧ W (i + 1) m' H') ∧ ∀ x H', (Itr 0 n).yld i H x H' → g x (wipe σ (own.map (·.2))) H' fun σ2 H2 => wipe σ2 (own.map (·.2)) = wipe σ (own.map (·.2)) ∧ tt σ2 H2 fun b H3 =>
      if b = true then te σ2 H3 fun y H4 => ∃ acc, H4 D = some (.lst acc) ∧ acc.length < sizeLine ∧ Nx (upd H4 D (.lst (acc ++ [y]))) else Nx H3)) :
    wpAny (model X.prog X.w) X.A (newList []) (fun acc s3 => wpAny (model X.prog X.w) X.A (newFunctionEnv scope X.env.globals (cloFrom X.env.cells scope.names []) [] X.env.qual none .none (some X.env)) (fun cenv s4 =>
      codeAny (model X.prog X.w) X.A (.compStart (.ListComp elt [⟨tg, iter, ifs, 0⟩] scope pos) 0 (.ref it) acc { cenv with scope := relabel scope X.env }) (compPost (model X.prog X.w) X.A X.xe none (EP X pins σ Q) acc cenv.locals) s4) X.xe s3) X.xe s := by
  refine wpAny_newObj_type (newEnv_comp ?_) (by show 0 ≤ sizeLine; decide)
  have lt : it < s.heap.objs.size := Heap.lt_size st
  obtain ⟨D, hD⟩ : ∃ D, D = s.heap.objs.size := ⟨_, rfl⟩
  obtain ⟨x, oe, fs, k1, k2, k3, k4, k5⟩ := hx.here I
  have free : H D = none := I.hok.fresh (Nat.le_of_eq hD.symm)
  obtain ⟨W, ⟨m0, w0⟩, turn⟩ := h D free
  obtain ⟨J, hJ⟩ : ∃ J, J = upd H D (.lst []) := ⟨_, rfl⟩
  obtain ⟨s3, hs3⟩ : ∃ s3 : Shared, s3 = { s with heap := s.heap.push { cls := .type "list", data := .seq ([] : List Value).toArray } } := ⟨_, rfl⟩
  have e3 : s3.heap = s.heap.push { cls := .type "list", data := .seq ([] : List Value).toArray } := by rw [hs3]
  have I3 : Inv X pins σ J s3 := by
    rw [hs3, hJ]
    refine I.laid (t' := s.toks) (fun _ _ e => Heap.get?_push_of_some _ e) (Nat.le_of_eq hD.symm) ⟨Nat.zero_le _, [], 0, .nil, ?_⟩
    rw [hD]
    exact Heap.get?_push_size _ rfl
  have itD : it ≠ D := by rw [hD]; exact Nat.ne_of_lt lt
  have xD : x ≠ D := fun z => by rw [z, free] at k2; cases k2
  have n3 : J it = none := by rw [hJ, upd_ne itD]; exact hf.1
  have f3 : FpOk X pins J it := ⟨n3, hf.2⟩
  have l3 : it < s3.heap.objs.size := by rw [e3, Heap.size_push]; exact Nat.lt_succ_of_lt lt
  have start := block_start I3 ok hN (fp := [it]) fun b hb => by
    obtain rfl : b = it := by simpa using hb
    exact ⟨f3, l3⟩
  obtain ⟨cl, hcl⟩ : ∃ cl, cl = cellsFrom (s3.heap.objs.size + 1) scope.names (cloFrom X.env.cells scope.names []) := ⟨_, rfl⟩
  rw [← hcl] at start
  rw [← hs3]
  show codeAny _ _ (.compStart (.ListComp elt [⟨tg, iter, ifs, 0⟩] scope pos) 0 (.ref it) (.ref s.heap.objs.size) (compEnvC scope (cellsFrom (s3.heap.objs.size + 1) scope.names (cloFrom X.env.cells scope.names [])) s3.heap.objs.size X.env)) (compPost (model X.prog X.w) X.A X.xe none (EP X pins σ Q) (.ref s.heap.objs.size) s3.heap.objs.size) { s3 with heap := pushCells (s3.heap.push { cls := .type "dict", data := .dict #[] }) scope.names }
  rw [← hcl, ← hD]
  obtain ⟨s4, hs4⟩ : ∃ s4 : Shared, s4 = { s3 with heap := pushCells (s3.heap.push { cls := .type "dict", data := .dict #[] }) scope.names } := ⟨_, rfl⟩
  rw [← hs4] at start ⊢
  have st4 : IsRangeIter s4.heap it 0 n 1 := by
    rw [hs4]
    exact pushCells_keeps _ _ _ _ (Heap.get?_push_of_some _ (by rw [e3]; exact Heap.get?_push_of_some _ st))
  have hB : HotX (X.blk s3 J scope (compEnvC scope cl s3.heap.objs.size X.env) [it]) := ⟨x, oe, fs, k1, by show J x = _; rw [hJ, upd_ne xD]; exact k2, k4, k5⟩
  have ex := start.ok.exf it (by show it ∈ [it]; simp)
  have loop := lcT_loop (B := X.blk s3 J scope (compEnvC scope cl s3.heap.objs.size X.env) [it]) (elt := elt) (tg := tg) (iter := iter) (ifs := ifs) (scope := scope) (pos := pos) (D := D) (σ := σ) (vs := own.map (·.2)) (Q := Q) (Wm := W)
    (Rr := compPost (model X.prog X.w) X.A X.xe none (EP X pins σ Q) (.ref D) s3.heap.objs.size) hB rfl rfl ex.1 (start.ok.exfs it (by show it ∈ [it]; simp)) (fun y c e => ex.2 y c e) rfl rfl (hg _ _ _ _ _) (ht _ _ _ _ _) (he _ _ _ _ _) turn
    (fun s' H' J' q => by
      have back : Inv X pins σ H' s' := I3.call' (ch := [it]) J'.os J'.base J'.hok J'.bare fun b hb => by
        obtain rfl : b = it := by simpa using hb
        exact ⟨f3.2.2.2.1, f3.2.1, f3.2.2.2.2.1, f3.2.2.2.2.2⟩
      obtain ⟨m, hn, _⟩ := J'.loc
      have nC : H' s3.heap.objs.size = none := J'.free
      obtain ⟨_, c1, _, c3, c4, c5⟩ := I3.fpOk (Nat.le_refl _) nC
      exact ⟨m, hn, fun h'' sb => ⟨.ref D, H', back.turned (t' := s'.toks) (fun b o hb e => (sb.2 b hb).trans e) nC c1 c3 c4 c5, rfl, q⟩⟩)
    m0 start st4 n3 (by rw [hJ]; exact w0)
  exact codeAny_compStart_list loop (wpAny_pyIter_rangeiter st4 loop)
theorem pe_lcT {elt tg a : Expr} {ifs : List Expr} {scope : Scope} {own : List (Str × Nat)} {pos p q : Pos} {ta : TA} {g : TG} {tt : TT} {te : TE} (hx : HotX X) (hN : X.N.Nodup) (hgl : Gl X "range") (hm : X.mg "range" = none) (ha : PA X [a] ta) (hst : starEach [a] X.env = [(false, eval a X.env)])
    (ok : BlkOk X.N X.env.scope scope own) (hg : ∀ (s : Shared) (H : Hp) (C : Addr) (cl : List (Str × Addr)) (fp : List Addr), PG (X.blk s H scope (compEnvC scope cl C X.env) fp) tg g)
    (ht : ∀ (s : Shared) (H : Hp) (C : Addr) (cl : List (Str × Addr)) (fp : List Addr), PTs (X.blk s H scope (compEnvC scope cl C X.env) fp) ifs tt) (he : ∀ (s : Shared) (H : Hp) (C : Addr) (cl : List (Str × Addr)) (fp : List Addr), PE (X.blk s H scope (compEnvC scope cl C X.env) fp) elt te) :
    PE X (.ListComp elt [⟨tg, .Call (.Name "range" p) [a] [] q, ifs, 0⟩] scope pos) (tLc (iRng1 ta) g tt te (own.map (·.2))) := by
  refine ⟨fun pins s σ H Q I h => ?_⟩
  rw [eval_ListComp]
  have hfree : ∀ y ∈ scope.names, y.2 = .free → ∃ c, X.env.cells.lookup y.1 = some c := fun y hy e => (ok.free y hy e).elim (fun k => I.ok.has _ (.inl k)) fun k => I.ok.has _ (.inr k)
  refine wpAny_comprehension_free (use := none) rfl (fun _ => rfl) (closure_ok hfree) ok.kind (fun y hy e => by rw [ok.uniq y hy, e]) ?_
  refine Call_ (ld_blt I hgl hm boot_range (PyProof.Rows.callWith_type1 (thn (ha.run q pins s σ H _ I h) fun us s1 ⟨ws, H1, I1, r1, rd⟩ => ?_) hst rfl))
  obtain ⟨j, e, b1, b2, rd⟩ := rd
  subst e
  cases r1 with
  | cons r rr =>
    cases rr
    obtain ⟨t, rfl⟩ := r
    refine call_range_1 (wpAny_pyIter_range (IsRange.new ..) (small_one (by omega) (by omega) b1 b2) ?_)
    have I2 : Inv X pins σ H1 { s1 with heap := s1.heap.push { cls := .type "range", data := .fields #[.int 0 s1.toks, .int j t, .int 1 (s1.toks + 1)] }, toks := s1.toks + 1 + 1 } := I1.kept fun _ _ e => Heap.get?_push_of_some _ e
    have sz : Builtin.Range.rangeSize 0 j 1 = (j.toNat : Int) := by rw [rangeSize_one]; split <;> omega
    refine lcT_rest (n := j.toNat) hx hN ok hg ht he (I2.kept (t' := s1.toks + 1 + 1) fun _ _ e => Heap.get?_push_of_some _ e) ?_ (I2.fpOk (Nat.le_refl _) (I2.hok.fresh (Nat.le_refl _))) rd
    have g := Heap.get?_push_size (s1.heap.push { cls := .type "range", data := .fields #[.int 0 s1.toks, .int j t, .int 1 (s1.toks + 1)] }) (o := { cls := .type "range_iterator", data := .fields #[rawInt 0, rawInt (Builtin.Range.rangeSize 0 j 1), rawInt 1] }) rfl
    rw [sz] at g
    rw [sz]
    exact g
end
end Z
namespace Z
open PySem PySem.Spec PyProof.Rows L2
/-! ### try .. except X as n -/
section
variable {X : Cx} {pins : List (Addr × Obj)} {σ : L2.St} {H : Hp} {sI : Shared} {B h : Heap} {a : Addr} {Zp : Obj → Prop}
/-- the caught object is of no concern to the frame, new since the entry -/
theorem caught_apart (J : Inv X pins σ H sI) (hs : X.stack = X.env :: X.outer) (hf : X.env.frame = some X.env.locals) (hex : X.ex = []) (nb : ∀ b o, sI.heap.get? b = some o → b ∉ frs X.stack → B.get? b = some o) (fl : HandSPX.FlyingZ B (X.env :: X.outer) a Zp h) :
    a ≠ X.env.locals ∧ a ∉ X.fs ∧ X.s_0.heap.get? a = none ∧ (∀ x c, X.env.cells.lookup x = some c → a ≠ c) ∧ ∀ p ∈ X.pn ++ pins, a ≠ p.1 := by
  obtain ⟨oe, vs, he, _, hd⟩ := fl.there
  have far : a ∉ frs (X.env :: X.outer) := fun hm => by
    obtain ⟨_, o, ho, hn⟩ := fl.2.2.1.mem hm
    rw [he] at ho
    cases ho
    exact hn _ hd
  have gone : sI.heap.get? a = none := by
    cases e : sI.heap.get? a with
    | none => rfl
    | some o =>
      have z := nb a o e (by rw [hs]; exact far)
      rw [fl.2.1] at z
      cases z
  refine ⟨fun z => far (List.mem_filterMap.mpr ⟨X.env, List.mem_cons_self, by rw [hf, z]⟩), fun hm => ?_, ?_, fun x c e z => ?_, fun p hp z => ?_⟩
  · obtain ⟨v, hv, q⟩ := List.mem_filterMap.mp hm
    exact far (List.mem_filterMap.mpr ⟨v, List.mem_cons_of_mem _ hv, q⟩)
  · cases e : X.s_0.heap.get? a with
    | none => rfl
    | some o =>
      obtain ⟨o', q⟩ := J.base.there a o e (by rw [hex]; exact fun y => nomatch y)
      rw [gone] at q
      cases q
  · obtain ⟨v, o, q, _⟩ := J.cell x c e
    rw [← z, gone] at q
    cases q
  · have q := (J.pin p hp).1
    rw [← z, gone] at q
    cases q
theorem inv_suite {s : Shared} (I : Inv X pins σ H s) (x : Addr) : Inv (X.suite x (X.pn ++ pins)) [] σ H s :=
  { I with ok := I.ok.suite _ _, pin := fun p hp => I.pin p (by rw [List.append_nil] at hp; exact hp) }
theorem inv_unsuite {s : Shared} {x : Addr} {pl : List (Addr × Obj)} (I : Inv (X.suite x (X.pn ++ pins)) pl σ H s) (ok : X.Ok) : Inv X pins σ H s :=
  { I with ok := ok, pin := fun p hp => I.pin p (List.mem_append_left _ hp) }
end
/-- what the clause wishes of an exception of the body: its object, locked, goes to slot i -/
def wTry (K : PySem.W.Frag) (c : Value) (i : Nat) (ts : Addr → TS) (Wout : WX) (D : Ends) : WX := fun cls d σ H =>
  ∃ b, PySem.W.exmOne K cls c = some b ∧ (b = false → Wout cls d σ H) ∧ (b = true → d = none ∧ ∀ (a : Addr) (oe : Obj), H a = none → oe.cls = cls → oe.dict = none → (∃ vs, oe.data = .fields vs ∧ vs[2]? = some .none) →
    ts a { D with nx := fun σ' H' => D.nx (σ'.set i none) H', bk := fun σ' H' => D.bk (σ'.set i none) H', ct := fun σ' H' => D.ct (σ'.set i none) H' } (σ.set i (some (.ref a))) (upd H a (exT oe)))
section
variable {X : Cx} {x n : Str} {c : Value} {i : Nat} {body suite : List Stmt} {b0 : Stmt} {np pos pos' : Pos} {tb : WX → TS} {ts : Addr → TS} {Wout : WX}
theorem ps_tryT (hs : X.stack = X.env :: X.outer) (hf : X.env.frame = some X.env.locals) (hex : X.ex = []) (hN : X.N.Nodup) (hi : X.N[i]? = some n) (hl : X.env.kindOf n = some .local) (hc : Names X x c) (tk : L2N.Takes X Wout)
    (hb : ∀ (W : WX) (pn : List (Addr × Obj)) (xe : Value → Shared → Prop), L2N.Takes (X.tr pn xe) W → PassesOwn (model X.prog X.w) X.A X.env xe → PSs (X.tr pn xe) body (tb W)) (hsu : ∀ (a : Addr) (pn : List (Addr × Obj)), PSs (X.suite a pn) (b0 :: suite) (ts a)) :
    PS X (.Try body [.ExceptHandler (some (.Name x np)) (some n) (b0 :: suite) pos'] [] [] pos) (fun D σ H => tb (wTry X.K c i ts Wout D) D σ H) := by
  refine ⟨fun pins s σ H D I h => wpAny_Try_except ?_⟩
  have ok := I.ok
  have fr : X.A.frames = some (X.env :: X.outer) := by rw [ok.frames, hs]
  have run := (hb (wTry X.K c i ts Wout D) (X.pn ++ pins) (fun e s₁ => wpAny (model X.prog X.w) X.A (noteFrame e X.env) (fun _ s₂ => wpAny (model X.prog X.w) X.A (setFlight e none)
    (fun _ s₃ => wpAny (model X.prog X.w) X.A (handleBy e X.env [.ExceptHandler (some (.Name x np)) (some n) (b0 :: suite) pos']) (SP X pins D) X.xe s₃) X.xe s₂) X.xe s₁) ?caught PassesOwn.looking).run [] s σ H D (I.toTry _) h
  case caught =>
    rintro u s' ⟨a, B, sI, pl, σ', H', cls, d, rfl, J', nb, up, sky, na, os, ag, b, hm, hno, hyes⟩
    have J : Inv X pins σ' H' sI := J'.ofTry ok
    rw [hs] at sky
    refine L2N.Sky.land (env := X.env) (outer := X.outer) (L := X.env.locals) L2N.Zn.steady fr hf sky fun h3 fl up3 => ?_
    obtain ⟨nL, nF, n0, nc, nq⟩ := caught_apart J hs hf hex nb fl
    obtain ⟨o3, v3, e3, z3, d3⟩ := fl.there
    have I3 : Inv X pins σ' H' { s' with heap := h3 } := J.landed nb fl.1 (up.trans up3) os ag
    have S3 := inv_suite I3 a
    have ty : PySem.W.Looks (model X.prog X.w) h3 (typeOf (.ref a)) cls := fun A Q E t k q => wpAny_typeOf_ref (k _ _ e3) (by rw [z3.1]; exact q)
    have LM := PySem.W.exm_one (M := model X.prog X.w) I3.kIn ty hm
    refine wpAny_handleBy_cons (codeAny_handlers_test ?_) (by intro q; cases q)
    have asked : ∀ {Q : Value → Shared → Prop} {E : Value → Shared → Prop}, Q c { s' with heap := h3 } → wpAny (model X.prog X.w) (X.A.mark (some (.ref a))) (eval (.Name x np) X.env) Q E { s' with heap := h3 } := fun q => by
      obtain ⟨g1, g2, g3 | ⟨g3, g4, g5⟩⟩ := hc
      · exact ld_glob (X := X.suite a (X.pn ++ pins)) S3 g1 g3 q g2
      · exact ld_blt (X := X.suite a (X.pn ++ pins)) S3 g1 g3 g4 q g5 g2
    refine asked (LM.here ?_)
    cases b with
    | false =>
      show wpAny _ X.A (handleBy (.ref a) X.env []) _ _ _
      refine wpAny_handleBy_nil ?_
      obtain ⟨_, _, _, oe, vs, T, _, _, he, _, hd, h1, _⟩ := id fl
      have go : wpAny (model X.prog X.w) X.A (setFlight (.ref a) X.env.frame) (fun _ s4 => wpAny (model X.prog X.w) X.A (throw (.ref a) : Sem Flow) (SP X pins D) X.xe s4) X.xe { s' with heap := h3 } := by
        rw [hf]
        exact HandSPX.setFlight_upZ fl fun h4 hd4 up4 => wpAny_throw (tk _ _ ⟨a, B, sI, pins, σ', H', cls, d, rfl, J, nb, (up.trans up3).trans up4, .inr (.inr (by rw [hs]; exact hd4)), na, os, ag, hno rfl⟩)
      unfold PySem.passOn
      refine wpAny_bind (wpAny_field he hd h1 ?_)
      rw [if_neg (show ¬ ((Value.ref T == Value.none) = true) from by simp)]
      first
        | exact wpAny_bind go
        | exact wpAny_bind (wpAny_pure (wpAny_bind go))
    | true =>
      obtain ⟨ed, suiteOk⟩ := hyes rfl
      subst ed
      refine codeAny_handlers_suite_as (HandSPX.lands_againZ fl fun h4 fl4 up4 => ?_)
      obtain ⟨o4, v4, e4, z4, d4⟩ := fl4.there
      have I4 : Inv X pins σ' H' { s' with heap := h4 } := J.landed nb fl4.1 ((up.trans up3).trans up4) os ag
      have S4 := inv_suite (Z.Inv.lock I4 e4 n0 na nL nc nq) a
      refine store_ok (X := X.suite a (X.pn ++ pins)) (v := .ref a) S4 hN hi (.inl hl) rfl (fun s5 S5 => ?_) (.inr hl)
      have gone : ∀ {σ6 : L2.St} {H6 : Hp} {s6 : Shared} {Q : Shared → Prop}, Inv (X.suite a (X.pn ++ pins)) [] σ6 H6 s6 → (∀ s7, Inv X pins (σ6.set i none) H6 s7 → Q s7) →
          wpAny (model X.prog X.w) X.A (do bindName X.env n .none; unbindBehindTheSuite X.env n pos') (fun _ s7 => Q s7) X.xe s6 := fun S6 hq => gone_ok (inv_unsuite S6 ok) hN hi hl hq
      refine wpAny_mono ((hsu a (X.pn ++ pins)).run [] s5 _ _ _ S5 (suiteOk a o4 na z4.1 z4.2.1 ⟨v4, d4, z4.2.2 v4 d4⟩)) (fun f s6 r => ?_) fun _ _ z => z.elim
      cases f with
      | ret u =>
        obtain ⟨v6, σ6, H6, S6, r6, q6⟩ := r
        exact gone S6 fun s7 J7 => ⟨_, _, _, J7, r6, q6⟩
      | next => obtain ⟨σ6, H6, S6, q6⟩ := r; exact gone S6 fun s7 J7 => ⟨_, _, J7, q6⟩
      | brk => obtain ⟨σ6, H6, S6, q6⟩ := r; exact gone S6 fun s7 J7 => ⟨_, _, J7, q6⟩
      | cont => obtain ⟨σ6, H6, S6, q6⟩ := r; exact gone S6 fun s7 J7 => ⟨_, _, J7, q6⟩
  refine wpAny_mono run (fun f s1 r => ?_) fun _ _ z => z
  cases f with
  | ret u => obtain ⟨v, σ', H', J', r', q⟩ := r; exact ⟨v, σ', H', J'.ofTry ok, r', q⟩
  | next => obtain ⟨σ', H', J', q⟩ := r; exact wpAny_execs_nil ⟨σ', H', J'.ofTry ok, q⟩
  | brk => obtain ⟨σ', H', J', q⟩ := r; exact ⟨σ', H', J'.ofTry ok, q⟩
  | cont => obtain ⟨σ', H', J', q⟩ := r; exact ⟨σ', H', J'.ofTry ok, q⟩
end
end Z
namespace Z
open PySem PySem.Spec PyProof.Rows L2
/-! ### defs that are called while an exception is handled -/
def HotA (A : Around) (H : Hp) : Prop := ∃ (x : Addr) (oe : Obj) (vs : Array Value), A.handled = some (.ref x) ∧ H x = some (exT oe) ∧ oe.data = .fields vs ∧ vs[2]? = some .none
structure FnT (P : Program) (w : World) (K : PySem.W.Frag) (mg : Str → Option Value) (base : Heap) (k : Nat) (f : Addr) (fd : FuncData) (ps : List Str) (sp : Sp) : Prop where
  len : ∀ vs H Q E, sp vs H Q E → vs.length = ps.length
  run : ∀ (A : Around) (outer : List Env) (s : Shared) (H : Hp) (args : Args) (us : List Value) (vs : List V) (Q : VK) (E : XK), L2H.RoomH k A → HotA A H → Env0 P w K mg base A outer s H → BindsTo s fd args (ps.zip us) → Vals vs us → sp vs H Q E →
    codeAny (model P w) A (.call (.ref f) args) (CR (L2N.CX P w) outer P w H s Q E) s
theorem FnT.mono {P : Program} {w : World} {K : PySem.W.Frag} {mg : Str → Option Value} {base : Heap} {j k : Nat} {f : Addr} {fd : FuncData} {ps : List Str} {sp : Sp} (F : FnT P w K mg base j f fd ps sp) (h : j ≤ k) : FnT P w K mg base k f fd ps sp :=
  ⟨F.len, fun A outer s H args us vs Q E hr => F.run A outer s H args us vs Q E (hr.mono h)⟩
section
variable {P : Program} {w : World} {K : PySem.W.Frag} {mg : Str → Option Value} {base : Heap}
abbrev cxT (P : Program) (w : World) (K : PySem.W.Frag) (mg : Str → Option Value) (base : Heap) (N : List Str) (qual : Str) (scope : Scope) (f : Addr) (cd : Value) (A : Around) (outer : List Env) (s : Shared) (H : Hp) (E : XK) : Cx :=
  { cxOf (L2N.CX P w) P w K mg base N qual scope f cd A outer s H E with calm := false }
/-- as the library's rule of a def's body, where exceptions leave with no context -/
theorem okN {x qual : Str} {st : Stmt} {f : Addr} {fd : FuncData} {N ps : List Str} {k : Nat} {sp : Sp} (F : Fun K x qual st f fd) (S : FnScope N ps (defScope st)) (len : ∀ vs H Q E, sp vs H Q E → vs.length = ps.length)
    (hbody : ∀ (cdv : Value) (A : Around) (outer : List Env) (s : Shared) (H : Hp) (vs : List V) (Q : VK) (E : XK), Room k (A.deeper (envOfC qual (defScope st) s.heap.objs.size f cdv)) → sp vs H Q E →
      ∃ t, PSs (cxOf (L2N.CX P w) P w K mg base N qual (defScope st) f cdv A outer s H E) (defBody st) t ∧ t { nx := fun _ H' => Q .non H', rt := Q } (L2.start N vs) H) : FnOk P w K mg base (L2N.CX P w) (k + 1) f fd ps sp := by
  obtain ⟨_, _, _, _, _, _, cdv, _, _, rfl, lk, hcd⟩ := F.ex
  exact fn_of lk hcd S len fun A outer s H vs Q E hr q => hbody cdv A outer s H vs Q E hr q
theorem okT {x qual : Str} {st : Stmt} {f : Addr} {fd : FuncData} {N ps : List Str} {k : Nat} {sp : Sp} (F : Fun K x qual st f fd) (S : FnScope N ps (defScope st)) (len : ∀ vs H Q E, sp vs H Q E → vs.length = ps.length)
    (hbody : ∀ (cdv : Value) (A : Around) (outer : List Env) (s : Shared) (H : Hp) (vs : List V) (Q : VK) (E : XK), L2H.RoomH k (A.deeper (envOfC qual (defScope st) s.heap.objs.size f cdv)) → HotX (cxT P w K mg base N qual (defScope st) f cdv A outer s H E) → sp vs H Q E →
      ∃ t, PSs (cxT P w K mg base N qual (defScope st) f cdv A outer s H E) (defBody st) t ∧ t { nx := fun _ H' => Q .non H', rt := Q } (L2.start N vs) H) : FnT P w K mg base (k + 1) f fd ps sp := by
  obtain ⟨_, _, _, _, _, _, cdv, _, _, rfl, lk, hcd⟩ := F.ex
  refine ⟨len, fun A outer s H args us vs Q E hr hot e0 hb r q => ?_⟩
  have kin : K.In s.heap := e0.mod.kin.keeps fun b o e => (e0.bs b o e).1
  have kinds : ∀ y ∈ ps.zip us, (defScope st).names.lookup y.1 = some .local ∨ ((defScope st).names.lookup y.1 = some .cell ∧ ((cellsFrom (s.heap.objs.size + 1) (defScope st).names []).lookup y.1).isSome = true) := fun ⟨n, v⟩ hy =>
    (S.par n (List.of_mem_zip hy).1).elim .inl fun z => .inr ⟨z, PySem.W.cellsFrom_some _ _ _ (.inl z)⟩
  refine codeAny_call_function hr.depth (kin _ _ lk) rfl S.co S.gen rfl (PySem.W.codeRec_of kin hcd) (hb _ _ _ _ (wpAny_newFunctionEnv_cells S.kind kinds fun env he s1 x => ?_))
  subst he
  refine ⟨(e0.mod.nolimit.keeps fun b o e => (e0.bs b o e).1).keeps x.toInCall.keep, codeAny_func ?_⟩
  have hx : HotX (cxT P w K mg base N qual (defScope st) f cdv A outer s H E) := by
    obtain ⟨y, oe, fs, a1, a2, a3⟩ := hot
    exact ⟨y, oe, fs, a1, a2, a3⟩
  obtain ⟨t, ht, hq⟩ := hbody cdv A outer s H vs Q E (hr.deeper _) hx q
  have e0' : Env0 P w K mg base { A with handled := none } outer s H := { e0 with frames := e0.frames }
  have I0 := inv_start (CX := L2N.CX P w) (E := E) (qual := qual) (f := f) (cd := cdv) S (A := { A with handled := none }) rfl e0' (len _ _ _ _ q) r x
  have I : Inv (cxT P w K mg base N qual (defScope st) f cdv A outer s H E) [] (L2.start N vs) H s1 :=
    { I0 with ok := { I0.ok with hd := fun z => Bool.noConfusion (show false = true from z), frames := Around.frames_deeper e0.frames } }
  refine wpAny_mono (ht.run [] s1 (L2.start N vs) H _ I hq) (fun fl s' z => ?_) fun _ _ z => z
  cases fl with
  | ret u => obtain ⟨v, _, H', J, rv, z⟩ := z; exact ⟨v, H', J.os, J.bare, J.base, J.hok, rv, z⟩
  | next => obtain ⟨_, H', J, z⟩ := z; exact ⟨V.non, H', J.os, J.bare, J.base, J.hok, rfl, z⟩
  | brk => obtain ⟨_, _, _, z⟩ := z; exact z.elim
  | cont => obtain ⟨_, _, _, z⟩ := z; exact z.elim
end
section
variable {X : Cx} {k : Nat} {f : Addr} {fd : FuncData} {ps : List Str} {sp : Sp} {x : Str} {p pos : Pos} {e : Expr} {es : List Expr} {t : TA}
def tCallT (A : Around) (sp : Sp) (t : TA) : TE := fun σ H Q => t σ H fun vs H1 => HotA A H1 ∧ sp vs H1 Q fun _ _ _ => False
theorem pe_callT (F : FnT X.prog X.w X.K X.mg X.base k f fd ps sp) (hr : L2H.RoomH k X.A) (hg : Gl X x) (hm : X.mg x = some (.ref f)) (hk : PySem.W.keepIn X.K (.ref f) = true) (hb : Binds X.K fd ps []) (ha : PA X (e :: es) t) (hdb : (x == ("__debug__" : Str)) = false)
    (he : starEach (e :: es) X.env = (false, eval e X.env) :: starEach es X.env) (hpl : (backTo pos (starEach es X.env)).any (·.1) = false) : PE X (.Call (.Name x p) (e :: es) [] pos) (tCallT X.A sp t) := by
  refine ⟨fun pins s σ H Q I h => wpAny_Call_Name_kw (ld_glob I hg hm ?_ hdb)⟩
  refine PySem.W.callWith_K (h₀ := X.base) I.ok.mod.kin hk (thn (ha.run pos pins s σ H _ I h) fun us s1 ⟨vs, H1, I1, r, hot, q⟩ => ⟨I1.kIn, ?_⟩) he hpl
  have hl : us.length = ps.length := by rw [← r.length]; exact F.len _ _ _ _ q
  have b := hb s1 us I1.kIn (by rw [List.append_nil]; exact hl)
  rw [List.append_nil] at b
  refine wpAny_call (codeAny_mono (F.run X.A X.stack s1 H1 ⟨us, []⟩ us vs Q _ hr hot I1.env0 b r q) fun res s' z => ?_)
  cases res with
  | error u => obtain ⟨_, _, _, _, _, _, _, _, _, _, _, _, z⟩ := z; exact z.elim
  | ok fl =>
    cases fl with
    | ret u => exact I1.after z
    | next => exact z.elim
    | brk => exact z.elim
    | cont => exact z.elim
end
/-! ### isinstance of a caught exception -/
section
variable {X : Cx}
def rIsX (K : PySem.W.Frag) : List V → Hp → VK → Prop := fun xs H Q => ∃ (a C : Addr) (oe : Obj) (c : V) (cv : Value) (b : Bool), xs = [.ref a, c] ∧ H a = some (exT oe) ∧ oe.cls = .ref C ∧ oe.dict = none ∧ (∃ vs, oe.data = .fields vs) ∧ ExcC K C ∧ ClsV c cv ∧ PySem.W.kitOne K (.ref C) cv = some b ∧ Q (.bl b) H
theorem call_isX : CallR X (.builtin "isinstance") (rIsX X.K) := by
  intro pins s σ H xs us Q I r h
  obtain ⟨a, C, oe, c, cv, b, rfl, ha, h1, h2, ⟨vs, h3⟩, ec, kc, e, q⟩ := h
  obtain ⟨u1, u2, rfl, r1, r2⟩ := vals2 r
  obtain rfl : u1 = Value.ref a := r1
  have e2 := kc.eq r2
  subst e2
  have J : PySem.W.InstAt s.heap a oe C none := by
    have g := exT_get I.hok ha
    obtain ⟨o1, o2, o3, o4⟩ := oe
    dsimp only at h1 h2 h3
    subst h1 h2 h3
    exact ⟨g, rfl, rfl, trivial⟩
  exact PySem.W.kia_one (PySem.W.handS_kitx_exc ec.hg ec.hk ec.hs ec.hd ec.ha ec.hn ec.ht ec.hm) I.kIn J e (fun z => nomatch z) fun tk => ⟨.bl b, H, I.kept (t' := tk) fun _ _ z => z, rfl, q⟩
end
end Z

namespace Z
open PySem PySem.Spec PyProof.Rows L2
section
variable {X : Cx} {W : Wi} {pos : Pos}
/-! ### a call of a def that writes at its one parameter, with what is new -/
theorem Rl.growN {K : PySem.W.Frag} {G : Gh} {δ : En} {σ : L2.St} {H0 H H0' H' : Hp} {a : Addr} (R : Rl K G δ σ H0 H) (ne : G.He a = none) (nw : ∀ (j : Nat) (s : Sl), δ[j]? = some s → isOwn s = true → σ[j]? ≠ some (some (V.ref a))) (g : GrP a H0 H H0' H') :
    Rl K G δ σ H0' H' := by
  have heH : ∀ b, G.He b ≠ none → H b ≠ none := fun b e q => e (R.he.free q)
  refine ⟨g.s', fun b w e => g.hs b w (ne_of_none e ne) (R.he b w e), R.hf.trans g.h0, fun b e => by rw [g.hn b (heH b e), R.hn b e], R.len, fun j t x h1 h2 => ?_, R.dj, R.pn⟩
  have q := R.sl j t x h1 h2
  have nea : ∀ c, isOwn t = true → x = some (.ref c) → c ≠ a := fun c ho hx z => by
    subst hx z
    exact nw j t h1 ho h2
  have key : ∀ {c : Addr} {o : O}, c ≠ a → H0 c = none → OwnAt K H0 H c o → H0' c = none ∧ OwnAt K H0' H' c o := fun {c o} hc n w => by
    have ne := w.some_
    refine ⟨by rw [g.hn c ne, n], w.mono g.h0 ?_⟩
    cases q : H c with
    | none => exact absurd q ne
    | some z => exact g.hs c z hc q
  cases t with
  | no => trivial
  | va d => obtain ⟨v, e, r⟩ := q; exact ⟨v, e, r.mono g.h0⟩
  | ow o => obtain ⟨c, e, n, f, w⟩ := q; have k := key (nea c rfl e) n w; exact ⟨c, e, k.1, f, k.2⟩
  | pi o => obtain ⟨c, e, n, f, w, p⟩ := q; have k := key (nea c rfl e) n w; exact ⟨c, e, k.1, f, k.2, p⟩
def ofN (r : RD) (δ : En) : RE := match r with
  | .okp d _ => .ok d δ
  | .owp r _ => .ok (ownD r) δ
  | _ => .bad
def ofNF (r : RD) (δ : En) : RF := match r with
  | .owp r _ => .ok r δ
  | _ => .bad
def callNK (g : List D → RD) : RF → RE
  | .ok o δ => ofN (g [ownD o]) δ
  | .rz c δ => .rz c δ
  | .bad => .bad
def callNKF (g : List D → RD) : RF → RF
  | .ok o δ => ofNF (g [ownD o]) δ
  | .rz c δ => .rz c δ
  | .bad => .bad
def dCallN (g : List D → RD) (f : FDen) : Den := fun δ => callNK g (f δ)
def fCallN (g : List D → RD) (f : FDen) : FDen := fun δ => callNKF g (f δ)
theorem me_callN {CX : CXT} {k : Nat} {f : Addr} {fd : FuncData} {ps : List Str} {x : Str} {p : Pos} {e : Expr} {g : List D → RD} {ff : FDen}
    (F : FnOk X.prog X.w X.K X.mg X.base CX k f fd ps (spP X.K 1 0 g)) (hr : Room k X.A) (hg : Gl X x) (hm : X.mg x = some (.ref f)) (hk : PySem.W.keepIn X.K (.ref f) = true) (hb : Binds X.K fd ps []) (hx : ∀ σ, PassesAt CX X σ (WE W.w σ)) (hdb : (x == ("__debug__" : Str)) = false)
    (ha : PE X e (tF X.K W ff)) (he : starEach [e] X.env = [(false, eval e X.env)]) : PE X (.Call (.Name x p) [e] [] pos) (tM X.K W (dCallN g ff)) := by
  refine PE_imp (pe_callS F hr hg hm hk hb hx (pa_cons ha pa_nil he) hdb he rfl) fun σ H Q ⟨G, δ, H0, R, z⟩ => ⟨G, δ, H0, R, ?_⟩
  unfold dCallN at z
  cases eA : ff δ with
  | bad => rw [eA] at z; exact z
  | rz c δ1 => rw [eA] at z; exact z
  | ok o δ1 =>
    rw [eA] at z
    intro a H1 H' R1 s1 n0 ne w nw
    have z : PoE X.K W G σ H0 (ofN (g [ownD o]) δ1) Q := z
    refine ⟨H1, [ownD o], a, o, R1.hs, rfl, rfl, rfl, rfl, n0, w, fun j v d hj e1 e2 => ?_, ?_⟩
    · cases j with
      | zero => exact absurd rfl hj
      | succ j => simp at e1
    · cases hg : g [ownD o] with
      | okp d o' => rw [hg] at z; exact fun v H2 H'' gr n1 w' r => z v H2 H'' (R1.growN ne nw gr) (s1.trans gr.h0) r
      | owp b o' =>
        rw [hg] at z
        exact fun v H2 H'' gr n1 w' nb nb1 wb => read_in z (R1.growN ne nw gr) (s1.trans gr.h0) nb1 (R1.he_none nb) wb (R1.own_ne nb)
      | ok d => rw [hg] at z; exact z.elim
      | ow d => rw [hg] at z; exact z.elim
      | rz c => rw [hg] at z; exact z.elim
      | bad => rw [hg] at z; exact z.elim
theorem mf_callN {CX : CXT} {k : Nat} {f : Addr} {fd : FuncData} {ps : List Str} {x : Str} {p : Pos} {e : Expr} {g : List D → RD} {ff : FDen}
    (F : FnOk X.prog X.w X.K X.mg X.base CX k f fd ps (spP X.K 1 0 g)) (hr : Room k X.A) (hg : Gl X x) (hm : X.mg x = some (.ref f)) (hk : PySem.W.keepIn X.K (.ref f) = true) (hb : Binds X.K fd ps []) (hx : ∀ σ, PassesAt CX X σ (WE W.w σ)) (hdb : (x == ("__debug__" : Str)) = false)
    (ha : PE X e (tF X.K W ff)) (he : starEach [e] X.env = [(false, eval e X.env)]) : PE X (.Call (.Name x p) [e] [] pos) (tF X.K W (fCallN g ff)) := by
  refine PE_imp (pe_callS F hr hg hm hk hb hx (pa_cons ha pa_nil he) hdb he rfl) fun σ H Q ⟨G, δ, H0, R, z⟩ => ⟨G, δ, H0, R, ?_⟩
  unfold fCallN at z
  cases eA : ff δ with
  | bad => rw [eA] at z; exact z
  | rz c δ1 => rw [eA] at z; exact z
  | ok o δ1 =>
    rw [eA] at z
    intro a H1 H' R1 s1 n0 ne w nw
    have z : PoF X.K W G σ H0 (ofNF (g [ownD o]) δ1) Q := z
    refine ⟨H1, [ownD o], a, o, R1.hs, rfl, rfl, rfl, rfl, n0, w, fun j v d hj e1 e2 => ?_, ?_⟩
    · cases j with
      | zero => exact absurd rfl hj
      | succ j => simp at e1
    · cases hg : g [ownD o] with
      | okp d o' => rw [hg] at z; exact z.elim
      | owp b o' =>
        rw [hg] at z
        exact fun v H2 H'' gr n1 w' nb nb1 wb => z v H2 H'' (R1.growN ne nw gr) (s1.trans gr.h0) nb1 (R1.he_none nb) wb (R1.own_ne nb)
      | ok d => rw [hg] at z; exact z.elim
      | ow d => rw [hg] at z; exact z.elim
      | rz c => rw [hg] at z; exact z.elim
      | bad => rw [hg] at z; exact z.elim
/-! ### how many unlike tuples of whole numbers -/
def tupsOf : List D → Option (List (List Int))
  | [] => some []
  | .tup es :: ds => (intsOf es).bind fun k => (tupsOf ds).map (k :: ·)
  | _ => none
def cntT : List (List Int) → Nat
  | [] => 0
  | k :: ks => if k ∈ ks then cntT ks else cntT ks + 1
def dstD : D → Option D
  | .lst ds => if ds.length < 64 then (tupsOf ds).map fun ks => .int (cntT ks : Nat) else none
  | _ => none
def ddT : List (List Int) → List (List Int)
  | [] => []
  | k :: ks => if k ∈ ks then ddT ks else k :: ddT ks
theorem ddT_mem : ∀ {ks : List (List Int)} {x : List Int}, x ∈ ddT ks ↔ x ∈ ks
  | [], x => Iff.rfl
  | k :: ks, x => by
    unfold ddT
    split
    · rename_i h
      rw [ddT_mem, List.mem_cons]
      exact ⟨.inr, fun h' => h'.elim (fun e => e ▸ h) id⟩
    · rw [List.mem_cons, List.mem_cons, ddT_mem]
theorem ddT_nd : ∀ {ks : List (List Int)}, (ddT ks).Nodup
  | [] => .nil
  | k :: ks => by
    unfold ddT
    split
    · exact ddT_nd
    · rename_i h
      exact List.nodup_cons.mpr ⟨fun h' => h (ddT_mem.mp h'), ddT_nd⟩
theorem ddT_len : ∀ ks : List (List Int), (ddT ks).length = cntT ks
  | [] => rfl
  | k :: ks => by
    unfold ddT cntT
    split
    · exact ddT_len ks
    · rw [List.length_cons, ddT_len ks]
theorem nodup_le {α : Type} [DecidableEq α] : ∀ (l D : List α), l.Nodup → (∀ x ∈ l, x ∈ D) → l.length ≤ D.length
  | [], _, _, _ => Nat.zero_le _
  | x :: l, D, hn, hs => by
    obtain ⟨h1, h2⟩ := List.nodup_cons.mp hn
    have hx : x ∈ D := hs x List.mem_cons_self
    have ih := nodup_le l (D.erase x) h2 fun y hy => by
      have hne : y ≠ x := fun e => h1 (e ▸ hy)
      exact (List.mem_erase_of_ne hne).2 (hs y (List.mem_cons_of_mem _ hy))
    have e := List.length_erase_of_mem hx
    have hp : 0 < D.length := List.length_pos_of_mem hx
    rw [List.length_cons]
    omega
theorem cntT_of {L ks : List (List Int)} (hn : L.Nodup) (h1 : ∀ x ∈ L, x ∈ ks) (h2 : ∀ x ∈ ks, x ∈ L) : L.length = cntT ks := by
  rw [← ddT_len]
  exact Nat.le_antisymm (nodup_le _ _ hn fun x hx => ddT_mem.mpr (h1 x hx)) (nodup_le _ _ ddT_nd fun x hx => h2 x (ddT_mem.mp hx))
def tLenSetT (K : PySem.W.Frag) (ta : TE) : TE := fun σ H Q => ta σ H fun x H1 => ∃ (l : Addr) (ks : List (Addr × List Int)), x = V.ref l ∧ SqL K H1 l (ks.map fun p => V.ref p.1) ∧ (∀ p ∈ ks, SqT K H1 p.1 (p.2.map V.int)) ∧ ks.length < 64 ∧ Q (.int (cntT (ks.map (·.2)) : Nat)) H1
theorem pe_lenSetT {a : Expr} {ta : TE} {p p2 q pos : Pos} (hc : X.calm = true) (hu : X.A.units + 64 < cLine) (hg : Gl X "len") (hm : X.mg "len" = none) (hg2 : Gl X "set") (hm2 : X.mg "set" = none) (ha : PE X a ta)
    (na : starEach [a] X.env = (false, eval a X.env) :: starEach [] X.env := by rfl) : PE X (.Call (.Name "len" p) [.Call (.Name "set" p2) [a] [] q] [] pos) (tLenSetT X.K ta) := by
  refine ⟨fun pins s σ H Q I h => ?_⟩
  refine Call_ (ld_blt I hg hm PySem.boot_len ?_)
  refine PyProof.Rows.callWith_builtin1 (PyProof.Rows.args_cons ?_ rfl) rfl rfl
  refine Call_ (ld_blt I hg2 hm2 PyProof.Rows.boot_set ?_)
  refine PyProof.Rows.callWith_type1 (PyProof.Rows.args_cons (thn (ha.run pins s σ H _ I h) fun v s1 ⟨x, H1, I1, r1, q1⟩ => PyProof.Rows.args_nil ?_) na) na rfl
  obtain ⟨l, ks, rfl, hl, hk, hf, q1⟩ := q1
  cases r1
  obtain ⟨its, rv, pl, hz⟩ := I1.list hl
  refine call_set_tups (P := X.prog) (w := X.w) ks (I1.ok.hd hc) pl.isList (by simpa using refs_of_vals rv) (fun p hp => I1.isT (hk p hp)) hf (by omega) fun h' tk L es ep t R g k => ?_
  refine PyProof.Rows.args_nil ?_
  obtain ⟨o, ho, hex, hd⟩ := R.ob
  have I2 : Inv X pins σ H1 { s1 with heap := h', toks := tk } := I1.kept k
  have sz : es.size = L.length := SetTR.size (s := { s1 with heap := h', toks := tk }) R
  have ft : t.fits es.size = true := SetTR.fits (s := { s1 with heap := h', toks := tk }) R
  have fw := R.few
  have e : L.length = cntT (ks.map (·.2)) := by
    rw [← List.length_map (f := (·.2))]
    refine cntT_of R.nd (fun x hx => ?_) fun x hx => ?_
    · obtain ⟨p, hp, rfl⟩ := List.mem_map.mp hx
      exact List.mem_map.mpr ⟨p, List.mem_of_mem_take (g.sub p hp), rfl⟩
    · obtain ⟨p, hp, rfl⟩ := List.mem_map.mp hx
      exact g.all p (by rw [List.take_length]; exact hp)
  refine call_len_set ho hex hd ft (by rw [sz]; omega) ⟨.int (cntT (ks.map (·.2)) : Nat), H1, I2.tok _, ⟨_, by rw [sz, e]⟩, q1⟩
theorem reps_tups {K : PySem.W.Frag} {H : Hp} : ∀ {vs : List V} {ds : List D} {ns : List (List Int)}, Reps K H vs ds → tupsOf ds = some ns → ∃ ks : List (Addr × List Int), vs = ks.map (fun p => V.ref p.1) ∧ ns = ks.map (·.2) ∧ ∀ p ∈ ks, SqT K H p.1 (p.2.map V.int)
  | _, _, _, .nil, h => by cases h; exact ⟨[], rfl, rfl, fun _ h => nomatch h⟩
  | _, _, _, .cons (d := d) (ds := ds) r t, h => by
    cases d with
    | tup es =>
      unfold tupsOf at h
      cases e : intsOf es with
      | none => rw [e] at h; cases h
      | some k =>
        rw [e] at h
        have h : (tupsOf ds).map (k :: ·) = some _ := h
        cases e2 : tupsOf ds with
        | none => rw [e2] at h; cases h
        | some ks0 =>
          rw [e2] at h
          cases h
          obtain ⟨ks, e3, e4, e5⟩ := reps_tups t e2
          subst e3 e4
          cases r with
          | tup hs rs =>
            have := reps_ints rs e
            subst this
            exact ⟨(_, k) :: ks, rfl, rfl, fun p hp => (List.mem_cons.mp hp).elim (fun q => by subst q; exact hs) (e5 p)⟩
    | _ => cases h
theorem me_dst {a : Expr} {fa : Den} {p p2 q pos : Pos} (hc : X.calm = true) (hu : X.A.units + 64 < cLine) (hg : Gl X "len") (hm : X.mg "len" = none) (hg2 : Gl X "set") (hm2 : X.mg "set" = none) (ha : PE X a (tM X.K W fa))
    (na : starEach [a] X.env = [(false, eval a X.env)]) : PE X (.Call (.Name "len" p) [.Call (.Name "set" p2) [a] [] q] [] pos) (tM X.K W (dUn dstD fa)) :=
  PE_imp (pe_lenSetT hc hu hg hm hg2 hm2 ha na) fun σ H Q ⟨G, δ, H0, R, h⟩ => ⟨G, δ, H0, R, PoE.bind h fun d δ1 v H01 H1 R1 s1 r1 h1 => by
    obtain ⟨z, hz, h3⟩ := ofO_some h1
    unfold dstD at hz
    split at hz
    · rename_i ds
      split at hz
      · rename_i hl
        cases e : tupsOf ds with
        | none => rw [e] at hz; cases hz
        | some ns =>
          rw [e] at hz
          cases hz
          cases r1 with
          | lst hs rs =>
            obtain ⟨ks, e3, e4, e5⟩ := reps_tups rs e
            subst e3 e4
            refine ⟨_, ks, rfl, R1.hs.seq hs, fun p hp => Same.seqT R1.hs (e5 p hp), ?_, h3.val R1 (.int _)⟩
            have l := rs.length
            rw [List.length_map] at l
            omega
      · cases hz
    · cases hz⟩
/-! ### a < b < c -/
def chnK2 (g' : D → D → Option D) (y : D) : D → En → RE := fun z δ => ofO (g' y z) δ
def chnK1 (g' : D → D → Option D) (fc : Den) (y : D) (o : Option D) (δ : En) : RE :=
  match o with
  | some (.bl true) => bindE (fc δ) (chnK2 g' y)
  | some (.bl false) => .ok (.bl false) δ
  | _ => .bad
def chnK (g g' : D → D → Option D) (fc : Den) (x : D) : D → En → RE := fun y δ => chnK1 g' fc y (g x y) δ
def chnK0 (g g' : D → D → Option D) (fb fc : Den) : D → En → RE := fun x δ => bindE (fb δ) (chnK g g' fc x)
def dChn (g g' : D → D → Option D) (fa fb fc : Den) : Den := fun δ => bindE (fa δ) (chnK0 g g' fb fc)
theorem chn_read {g g' : D → D → Option D} {fa fb fc : Den} {σ : L2.St} {H : Hp} {Q : VK} (gs : ∀ x y z, g x y = some z → ∃ b, z = .bl b) (h : tM X.K W (dChn g g' fa fb fc) σ H Q) :
    tChain (rM X.K g) (rM X.K g') (tM X.K W fa) (tM X.K W fb) (tM X.K W fc) σ H Q := by
  obtain ⟨G, δ, H0, R, h⟩ := h
  refine ⟨G, δ, H0, R, PoE.bind h fun d δ1 v H01 H1 R1 s1 r1 h1 => ⟨G, δ1, H01, R1, PoE.bind h1 fun e δ2 w H02 H2 R2 s2 r2 h2 => ?_⟩⟩
  have h2 : PoE X.K W G σ H02 (chnK1 g' fc e (g d e) δ2) Q := h2
  cases ho : g d e with
  | none => rw [ho] at h2; exact h2.elim
  | some z =>
    obtain ⟨b, rfl⟩ := gs _ _ _ ho
    rw [ho] at h2
    refine ⟨H02, d, e, .bl b, R2.hs, r1.mono s2, r2, ho, fun u H03 H3 gr r => ?_⟩
    cases r
    refine ⟨b, rfl, ?_⟩
    have R3 := R2.grow gr
    cases b with
    | false => exact (h2.up gr.h0).val R3 (.bl _)
    | true =>
      have h2 : PoE X.K W G σ H02 (bindE (fc δ2) (chnK2 g' e)) Q := h2
      refine ⟨G, δ2, H03, R3, PoE.bind (h2.up gr.h0) fun f δ3 w3 H04 H4 R4 s4 r4 h4 => ?_⟩
      obtain ⟨z, hz, h5⟩ := ofO_some h4
      exact ⟨H04, e, f, z, R4.hs, (r2.mono gr.h0).mono s4, r4, hz, fun u H05 H5 g r => h5.new R4 g r⟩
theorem cop_bl {o : COp} {x y z : D} (h : o.fn x y = some z) : ∃ b, z = .bl b := by
  have key : ∀ {p : Int → Int → Bool}, cmpI p x y = some z → ∃ b, z = .bl b := fun {p} h => by
    unfold cmpI at h
    split at h
    · cases h; exact ⟨_, rfl⟩
    · cases h
  cases o with
  | eq =>
    have h : (eqX x y).map D.bl = some z := h
    cases e : eqX x y with
    | none => rw [e] at h; cases h
    | some b => rw [e] at h; cases h; exact ⟨_, rfl⟩
  | ne =>
    have h : ((eqD x y).map fun b => D.bl (!b)) = some z := h
    cases e : eqD x y with
    | none => rw [e] at h; cases h
    | some b => rw [e] at h; cases h; exact ⟨_, rfl⟩
  | isin =>
    have h : (inD x y).map D.bl = some z := h
    cases e : inD x y with
    | none => rw [e] at h; cases h
    | some b => rw [e] at h; cases h; exact ⟨_, rfl⟩
  | notin =>
    have h : ((inD x y).map fun b => D.bl (!b)) = some z := h
    cases e : inD x y with
    | none => rw [e] at h; cases h
    | some b => rw [e] at h; cases h; exact ⟨_, rfl⟩
  | lt => exact key h
  | le => exact key h
  | gt => exact key h
  | ge => exact key h
theorem me_chn {o o' : COp} {a b c : Expr} {fa fb fc : Den} (hu : X.A.units + 65 < cLine) (ha : PE X a (tM X.K W fa)) (hb : PE X b (tM X.K W fb)) (hc : PE X c (tM X.K W fc)) (hm : lastMarks [o.op, o'.op] [b, c] = false) :
    PE X (.Compare a [o.op, o'.op] [b, c] pos) (tM X.K W (dChn o.fn o'.fn fa fb fc)) ∧ PT X (.Compare a [o.op, o'.op] [b, c] pos) (tT X.K W (dChn o.fn o'.fn fa fb fc)) :=
  ⟨PE_imp (pe_chain (opC o hu) (opC o' hu) ha hb hc hm) fun σ H Q h => chn_read (fun _ _ _ h => cop_bl h) h,
   PT_imp (pt_chain (opC o hu) (opC o' hu) ha hb hc hm) fun σ H Q ⟨G, δ, H0, R, h⟩ => chn_read (fun _ _ _ h => cop_bl h) ⟨G, δ, H0, R, h.toE⟩⟩
/-! ### n.bit_length() -/
def bitD : D → Option D
  | .int i => some (.int (Builtin.Int.intBits i : Nat))
  | _ => none
theorem me_bitl {n : Str} {p apos cpos : Pos} {f : Den} (ha : PE X (.Name n p) (tM X.K W f)) (hline : (apos.endLine == cpos.line) = true) : PE X (.Call (.Attribute (.Name n p) "bit_length" apos) [] [] cpos) (tM X.K W (dUn bitD f)) :=
  PE_imp (pe_bits ha rfl hline) fun σ H Q ⟨G, δ, H0, R, h⟩ => ⟨G, δ, H0, R, PoE.bind h fun d δ1 v H01 H1 R1 s1 r1 h1 => by
    obtain ⟨z, hz, h3⟩ := ofO_some h1
    unfold bitD at hz
    split at hz
    · cases hz
      cases r1
      exact ⟨_, rfl, h3.val R1 (.int _)⟩
    · cases hz⟩
/-! ### dicts of pairs -/
def putD (kvs : List (Key × D)) (k : Key) (v : D) : List (Key × D) :=
  if (kvs.any fun kv => decide (kv.1 = k)) = true then kvs.map (fun kv => if kv.1 = k then (kv.1, v) else kv) else kvs ++ [(k, v)]
def mergeD (kvs more : List (Key × D)) : List (Key × D) := more.foldl (fun acc kv => putD acc kv.1 kv.2) kvs
inductive RK (K : PySem.W.Frag) (H : Hp) : List (Key × V) → List (Key × D) → Prop
  | nil : RK K H [] []
  | cons {k : Key} {v : V} {d : D} {a : List (Key × V)} {b : List (Key × D)} : Rep K H v d → RK K H a b → RK K H ((k, v) :: a) ((k, d) :: b)
theorem RK.any {K : PySem.W.Frag} {H : Hp} {k : Key} : ∀ {a : List (Key × V)} {b : List (Key × D)}, RK K H a b → (a.any fun kv => decide (kv.1 = k)) = (b.any fun kv => decide (kv.1 = k))
  | _, _, .nil => rfl
  | _, _, .cons _ r => by rw [List.any_cons, List.any_cons, r.any]
theorem RK.upd_ {K : PySem.W.Frag} {H : Hp} {k : Key} {v : V} {d : D} (h : Rep K H v d) : ∀ {a : List (Key × V)} {b : List (Key × D)}, RK K H a b → RK K H (a.map (fun kv => if kv.1 = k then (kv.1, v) else kv)) (b.map (fun kv => if kv.1 = k then (kv.1, d) else kv))
  | _, _, .nil => .nil
  | _, _, .cons (k := k') q r => by
    rw [List.map_cons, List.map_cons]
    by_cases e : k' = k
    · simp only [e, if_true]
      exact .cons h (RK.upd_ h r)
    · simp only [e, if_false]
      exact .cons q (RK.upd_ h r)
theorem RK.snoc {K : PySem.W.Frag} {H : Hp} {k : Key} {v : V} {d : D} (h : Rep K H v d) : ∀ {a : List (Key × V)} {b : List (Key × D)}, RK K H a b → RK K H (a ++ [(k, v)]) (b ++ [(k, d)])
  | _, _, .nil => .cons h .nil
  | _, _, .cons q r => .cons q (RK.snoc h r)
theorem RK.put {K : PySem.W.Frag} {H : Hp} {k : Key} {v : V} {d : D} {a : List (Key × V)} {b : List (Key × D)} (r : RK K H a b) (h : Rep K H v d) : RK K H (putK a k v) (putD b k d) := by
  unfold putK putD
  rw [r.any (k := k)]
  split
  · exact r.upd_ h
  · exact r.snoc h
theorem RK.merge {K : PySem.W.Frag} {H : Hp} {m : List (Key × V)} {n : List (Key × D)} (h : RK K H m n) : ∀ {a : List (Key × V)} {b : List (Key × D)}, RK K H a b → RK K H (mergeK a m) (mergeD b n) := by
  induction h with
  | nil => intro a b r; exact r
  | cons h t ih => intro a b r; exact ih (r.put h)
theorem RK.parts {K : PySem.W.Frag} {H : Hp} : ∀ {a : List (Key × V)} {b : List (Key × D)}, RK K H a b → a = (b.map (·.1)).zip (a.map (·.2)) ∧ (b.map (·.1)).length = (a.map (·.2)).length ∧ Reps K H (a.map (·.2)) (b.map (·.2))
  | _, _, .nil => ⟨rfl, rfl, .nil⟩
  | _, _, .cons h r => by
    obtain ⟨e1, e2, e3⟩ := r.parts
    exact ⟨by simp only [List.map_cons, List.zip_cons_cons]; rw [← e1], by simp only [List.map_cons, List.length_cons]; rw [e2], .cons h e3⟩
theorem RK.mono {K : PySem.W.Frag} {H H' : Hp} (s : Same H H') : ∀ {a : List (Key × V)} {b : List (Key × D)}, RK K H a b → RK K H' a b
  | _, _, .nil => .nil
  | _, _, .cons h r => .cons (h.mono s) (r.mono s)
/-- the dict of some pairs, of which later ones win -/
def dicO (kvs : List (Key × D)) : O := .dic ((mergeD [] kvs).map (·.1)) ((mergeD [] kvs).map (·.2))
theorem dicO_own {K : PySem.W.Frag} {H0 H : Hp} {p : Addr} {kvs : List (Key × V)} {kds : List (Key × D)} (r : RK K H0 kvs kds) (h : H p = some (.dK (mergeK [] kvs))) : OwnAt K H0 H p (dicO kds) := by
  obtain ⟨e1, e2, e3⟩ := (RK.merge r (.nil : RK K H0 [] [])).parts
  exact ⟨(mergeK [] kvs).map (·.2), by rw [h, ← e1], e2, e3⟩
def keyD : D → Option Key
  | .int i => some (.inl i)
  | .str x => some (.inr x)
  | _ => none
def pairsD : List D → Option (List (Key × D))
  | [] => some []
  | .tup [k, v] :: ds => (keyD k).bind fun k => (pairsD ds).map ((k, v) :: ·)
  | _ => none
theorem rep_key {K : PySem.W.Frag} {H : Hp} {v : V} {d : D} {k : Key} (r : Rep K H v d) (h : keyD d = some k) : v = kV k := by
  cases d with
  | int i => cases h; cases r; rfl
  | str i => cases h; cases r; rfl
  | _ => cases h
theorem reps_pairs {K : PySem.W.Frag} {H : Hp} : ∀ {vs : List V} {ds : List D} {kds : List (Key × D)}, Reps K H vs ds → pairsD ds = some kds → ∃ (ps : List Addr) (kvs : List (Key × V)), vs = ps.map V.ref ∧ Paired (fun p kv => SqT K H p [kV kv.1, kv.2]) ps kvs ∧ RK K H kvs kds
  | _, _, _, .nil, h => by cases h; exact ⟨[], [], rfl, .nil, .nil⟩
  | _, _, _, .cons (d := d) (ds := ds) r t, h => by
    match d, r, h with
    | .tup [k, v], r, h =>
      have h : ((keyD k).bind fun k => (pairsD ds).map ((k, v) :: ·)) = some _ := h
      cases e : keyD k with
      | none => rw [e] at h; cases h
      | some kk =>
        rw [e] at h
        have h : (pairsD ds).map ((kk, v) :: ·) = some _ := h
        cases e2 : pairsD ds with
        | none => rw [e2] at h; cases h
        | some kds0 =>
          rw [e2] at h
          cases h
          obtain ⟨ps, kvs, e3, e4, e5⟩ := reps_pairs t e2
          subst e3
          cases r with
          | tup hs rs =>
            obtain ⟨x, y, rfl, rx, ry⟩ := reps2 rs
            have ex := rep_key rx e
            subst ex
            exact ⟨_ :: ps, (kk, y) :: kvs, rfl, .cons hs e4, .cons ry e5⟩
def dctK : D → En → RF
  | .lst ds, δ => (match pairsD ds with
    | some kds => .ok (dicO kds) δ
    | none => .bad)
  | _, _ => .bad
def fDct (f : Den) : FDen := fun δ => bindEF (f δ) dctK
theorem mf_dct {a : Expr} {fa : Den} {p : Pos} (hc : X.calm = true) (hg : Gl X "dict") (hm : X.mg "dict" = none) (ha : PE X a (tM X.K W fa)) (he : starEach [a] X.env = [(false, eval a X.env)]) : PE X (.Call (.Name "dict" p) [a] [] pos) (tF X.K W (fDct fa)) :=
  PE_imp (pe_callTy (T := "dict") (call_dictP hc) hg hm (by decide +kernel) (pa_cons ha pa_nil he) (by decide) (by decide) he rfl) fun σ H Q ⟨G, δ, H0, R, h⟩ => ⟨G, δ, H0, R, PoE.bindF h fun d δ1 v H1 H' R1 s1 r1 h1 => by
    unfold dctK at h1
    split at h1
    · rename_i ds
      cases e : pairsD ds with
      | none => rw [e] at h1; exact h1.elim
      | some kds =>
        rw [e] at h1
        have h1 : PoF X.K W G σ H1 (.ok (dicO kds) δ1) Q := h1
        cases r1 with
        | lst q rs =>
          obtain ⟨ps, kvs, e3, e4, e5⟩ := reps_pairs rs e
          subst e3
          refine ⟨_, ps, kvs, rfl, R1.hs.seq q, ?_, fun p hp => h1.laid R1 hp (dicO_own e5 upd_same)⟩
          have key : ∀ {ps : List Addr} {kvs : List (Key × V)}, Paired (fun p kv => SqT X.K H1 p [kV kv.1, kv.2]) ps kvs → Paired (fun p kv => SqT X.K H' p [kV kv.1, kv.2]) ps kvs := by
            intro ps kvs h
            induction h with
            | nil => exact .nil
            | cons h t ih => exact .cons (Same.seqT R1.hs h) ih
          exact key e4
    · exact h1.elim⟩
/-- a displayed dict: the values of keys and items in turn -/
def dPrs : List (Den × Den) → En → RA
  | [], δ => .ok [] δ
  | (fk, fv) :: r, δ => consA (fk δ) fun k δ1 => consA (fv δ1) fun v δ2 => bindAA (dPrs r δ2) fun ds δ3 => .ok (k :: v :: ds) δ3
def alts : List D → Option (List (Key × D))
  | [] => some []
  | k :: v :: ds => (keyD k).bind fun k => (alts ds).map ((k, v) :: ·)
  | _ => none
inductive R2s (K : PySem.W.Frag) (H : Hp) : List (V × V) → List D → Prop
  | nil : R2s K H [] []
  | cons {x y : V} {k v : D} {ps : List (V × V)} {ds : List D} : Rep K H x k → Rep K H y v → R2s K H ps ds → R2s K H ((x, y) :: ps) (k :: v :: ds)
theorem R2s.alts {K : PySem.W.Frag} {H : Hp} : ∀ {ps : List (V × V)} {ds : List D} {kds : List (Key × D)}, R2s K H ps ds → Z.alts ds = some kds → ∃ kvs : List (Key × V), ps = kvs.map (fun kv => (kV kv.1, kv.2)) ∧ RK K H kvs kds
  | _, _, _, .nil, h => by cases h; exact ⟨[], rfl, .nil⟩
  | _, _, _, .cons (k := k) (v := v) (ds := ds) rx ry t, h => by
    have h : ((keyD k).bind fun k => (Z.alts ds).map ((k, v) :: ·)) = some _ := h
    cases e : keyD k with
    | none => rw [e] at h; cases h
    | some kk =>
      rw [e] at h
      have h : (Z.alts ds).map ((kk, v) :: ·) = some _ := h
      cases e2 : Z.alts ds with
      | none => rw [e2] at h; cases h
      | some kds0 =>
        rw [e2] at h
        cases h
        obtain ⟨kvs, e3, e4⟩ := t.alts e2
        subst e3
        have ex := rep_key rx e
        subst ex
        exact ⟨(kk, _) :: kvs, rfl, .cons ry e4⟩
theorem R2s.mono {K : PySem.W.Frag} {H H' : Hp} (s : Same H H') : ∀ {ps : List (V × V)} {ds : List D}, R2s K H ps ds → R2s K H' ps ds
  | _, _, .nil => .nil
  | _, _, .cons h q r => .cons (h.mono s) (q.mono s) (r.mono s)
def PoR (K : PySem.W.Frag) (W : Wi) (G : Gh) (σ : L2.St) (H0 : Hp) (r : RA) (Q : List (V × V) → Hp → Prop) : Prop :=
  match r with
  | .ok ds δ => ∀ ps H0' H', Rl K G δ σ H0' H' → Same H0 H0' → R2s K H0' ps ds → Q ps H'
  | .rz c δ => ∀ cls dd H0' H', Rl K G δ σ H0' H' → Same H0 H0' → ExIs K W.ct c cls dd H' → W.w cls dd σ H'
  | .bad => False
theorem prs_read {G : Gh} {σ : L2.St} : ∀ (fs : List (Den × Den)) {δ : En} {H0 H : Hp} {Q : List (V × V) → Hp → Prop}, Rl X.K G δ σ H0 H → PoR X.K W G σ H0 (dPrs fs δ) Q → tPairs (fs.map fun f => (tM X.K W f.1, tM X.K W f.2)) σ H Q
  | [], δ, H0, H, Q, R, h => h [] H0 H R (Same.refl _) .nil
  | (fk, fv) :: r, δ, H0, H, Q, R, h => by
    refine ⟨G, δ, H0, R, ?_⟩
    show PoE X.K W G σ H0 (fk δ) _
    unfold dPrs at h
    cases e : fk δ with
    | bad => rw [e] at h; exact h
    | rz c δ1 => rw [e] at h; exact h
    | ok k δ1 =>
      rw [e] at h
      intro x H1 H' R1 s1 r1
      refine ⟨G, δ1, H1, R1, ?_⟩
      show PoE X.K W G σ H1 (fv δ1) _
      have h : PoR X.K W G σ H0 (consA (fv δ1) fun v δ2 => bindAA (dPrs r δ2) fun ds δ3 => .ok (k :: v :: ds) δ3) Q := h
      cases e2 : fv δ1 with
      | bad => rw [e2] at h; exact h
      | rz c δ2 => rw [e2] at h; exact fun cls dd H2 H'' R2 s2 x => h cls dd H2 H'' R2 (s1.trans s2) x
      | ok v δ2 =>
        rw [e2] at h
        intro y H2 H'' R2 s2 r2
        have h : PoR X.K W G σ H0 (bindAA (dPrs r δ2) fun ds δ3 => .ok (k :: v :: ds) δ3) Q := h
        refine prs_read r R2 ?_
        cases e3 : dPrs r δ2 with
        | bad => rw [e3] at h; exact h
        | rz c δ3 => rw [e3] at h; exact fun cls dd H3 H3' R3 s3 x => h cls dd H3 H3' R3 ((s1.trans s2).trans s3) x
        | ok ds δ3 =>
          rw [e3] at h
          exact fun ps H3 H3' R3 s3 r3 => h ((x, y) :: ps) H3 H3' R3 ((s1.trans s2).trans s3) (.cons ((r1.mono s2).mono s3) (r2.mono s3) r3)
def dspK (ds : List D) (δ : En) : RF :=
  match alts ds with
  | some kds => .ok (dicO kds) δ
  | none => .bad
def fDsp (fs : List (Den × Den)) : FDen := fun δ => bindAF (dPrs fs δ) dspK
theorem mf_dsp {keys : List (Option Expr)} {values : List Expr} {fs : List (Den × Den)} (h : PPs X pos keys values (fs.map fun f => (tM X.K W f.1, tM X.K W f.2))) (hall : keys.all (·.isSome) = true) (hl : keys.length = values.length) (h0 : keys ≠ []) (h15 : keys.length ≤ 15) (hl2 : keys.length = fs.length) :
    PE X (.Dict keys values pos) (tF X.K W (fDsp fs)) :=
  PE_imp (pe_disp h hall hl h0 h15) fun σ H Q ⟨G, δ, H0, R, h⟩ p hp => by
    have R1 := (R.grow (Gr.lay (o := .dK []) R.hs hp)).hide upd_same (R.hs.free hp) (R.own_ne hp)
    have ne : G.He p = none := R.he_none hp
    have nf : G.Hf p = none := R.hf.free (R.hs.free hp)
    refine prs_read fs R1 ?_
    unfold fDsp at h
    cases e : dPrs fs δ with
    | bad => rw [e] at h; exact h
    | rz c δ1 => rw [e] at h; exact fun cls dd H1 H' R2 s2 x => h cls dd H1 H' (R2.unhide ne nf).1 s2 x
    | ok ds δ1 =>
      rw [e] at h
      have h : PoF X.K W G σ H0 (dspK ds δ1) Q := h
      intro ps H1 H' R2 s2 r2
      obtain ⟨R3, hu, n0, nw⟩ := R2.unhide ne nf
      refine ⟨hu, ?_⟩
      unfold dspK at h
      cases e2 : alts ds with
      | none => rw [e2] at h; exact h.elim
      | some kds =>
        rw [e2] at h
        obtain ⟨kvs, rfl, rk⟩ := r2.alts e2
        refine ⟨kvs, rfl, ?_, h p H1 _ (R3.poke n0 ne nw) s2 n0 ne (dicO_own rk upd_same) nw⟩
        have l1 : ∀ {fs : List (Den × Den)} {δ δ1 : En} {ds : List D}, dPrs fs δ = .ok ds δ1 → ds.length = 2 * fs.length := by
          intro fs
          induction fs with
          | nil => intro δ δ1 ds h; cases h; rfl
          | cons f fs ih =>
            intro δ δ1 ds h
            obtain ⟨fk, fv⟩ := f
            unfold dPrs at h
            cases e1 : fk δ with
            | bad => rw [e1] at h; cases h
            | rz c δ2 => rw [e1] at h; cases h
            | ok k δ2 =>
              rw [e1] at h
              have h : (consA (fv δ2) fun v δ2 => bindAA (dPrs fs δ2) fun ds δ3 => RA.ok (k :: v :: ds) δ3) = .ok ds δ1 := h
              cases e2 : fv δ2 with
              | bad => rw [e2] at h; cases h
              | rz c δ3 => rw [e2] at h; cases h
              | ok v δ3 =>
                rw [e2] at h
                have h : (bindAA (dPrs fs δ3) fun ds δ3 => RA.ok (k :: v :: ds) δ3) = .ok ds δ1 := h
                cases e3 : dPrs fs δ3 with
                | bad => rw [e3] at h; cases h
                | rz c δ4 => rw [e3] at h; cases h
                | ok ds4 δ4 =>
                  rw [e3] at h
                  cases h
                  have := ih e3
                  simp only [List.length_cons]
                  omega
        have l2 : ∀ {ps : List (V × V)} {ds : List D}, R2s X.K H1 ps ds → ds.length = 2 * ps.length := by
          intro ps ds r
          induction r with
          | nil => rfl
          | cons _ _ _ ih => simp only [List.length_cons]; omega
        have a := l1 e
        have b := l2 r2
        rw [List.length_map] at b
        omega
/-! ### name.insert(i, e) -/
def insK (i : Nat) (k d : D) (s : Option O) (δ : En) : RS :=
  match k, s with
  | .int k, some (.lst ds) => if ds.length < 1000000 ∧ 0 ≤ k ∧ k < 9223372036854775808 then .nx (setOwn δ i (.lst (ds.take k.toNat ++ [d] ++ ds.drop k.toNat))) else .bad
  | _, _ => .bad
def sIns (i : Nat) (fi f : Den) : SDen := fun δ => match ownAt δ i with
  | some (.lst _) => bindES (fi δ) fun k δ1 => bindES (f δ1) fun d δ2 => insK i k d (ownAt δ2 i) δ2
  | _ => .bad
theorem ms_ins {i : Nat} {x : Str} {ix e : Expr} {fi f : Den} {p apos cpos : Pos} (hx : PE X (.Name x p) (tVar i)) (hi : PE X ix (tM X.K W fi)) (he : PE X e (tM X.K W f))
    (hfew : ((backTo cpos (starEach [ix, e] X.env)).all (fun x => !x.1) && (backToKw cpos (keywordEach [] X.env)).all (fun x => x.1.isSome)
      && decide ([ix, e].length + ([] : List Keyword).length + (if ([] : List Keyword).isEmpty then 0 else 1) < 30)) = true)
    (hline : (apos.endLine == cpos.line) = true) (hs : starEach [ix, e] X.env = (false, eval ix X.env) :: starEach [e] X.env) (hs2 : starEach [e] X.env = [(false, eval e X.env)]) : PS X (.Expr (.Call (.Attribute (.Name x p) "insert" apos) [ix, e] [] cpos) pos) (sM X.K W (sIns i fi f)) :=
  PS_imp (ps_expr (pe_bm PySem.F.plainAttrs_list PySem.F.slot_list_insert PySem.F.type_list_insert mt_insert hx (pa_cons hi (pa_cons he pa_nil hs2) hs) rfl hfew hline hs (by rw [hs2]; rfl)) rfl) fun D σ H ⟨G, δ, H0, R, q⟩ => by
    unfold sIns at q
    split at q
    · rename_i ds0 e0
      obtain ⟨a, hσ, n0, ne, vs, hv, rs⟩ := R.owned e0
      refine ⟨.ref a, hσ, .inl ⟨rfl, vs, .inl (.inl hv)⟩, G, δ, H0, R, PoS.bindE q fun k δ1 v H1 H' R1 r1 h1 => ⟨G, δ1, H1, R1, ?_⟩⟩
      cases ef : f δ1 with
      | bad => rw [ef] at h1; exact h1.elim
      | rz c δ2 => rw [ef] at h1; exact fun cls dd H2 H'' R2 s x => h1 cls dd σ H2 H'' R2 s x
      | ok d δ2 =>
        rw [ef] at h1
        intro w H2 H'' R2 s2 r2
        have h1 : PoS X.K W G H1 (insK i k d (ownAt δ2 i) δ2) D := h1
        generalize eo : ownAt δ2 i = oo at h1
        unfold insK at h1
        · split at h1
          · rename_i k' ds eo2
            split at h1
            · rename_i c
              obtain ⟨a1, hσ1, n1, ne1, ws, hw, rs1⟩ := R2.owned eo
              rw [hσ] at hσ1
              cases hσ1
              cases r1
              exact ⟨a, ws, k', w, rfl, rfl, hw, by rw [rs1.length]; exact Nat.lt_of_lt_of_le c.1 (by decide), c.2.1, c.2.2, h1 σ H2 _ (R2.wrote eo hσ n1 ne1 ⟨_, upd_same, ((rs1.take k'.toNat).append (.cons r2 .nil)).append (rs1.drop k'.toNat)⟩) s2⟩
            · exact h1.elim
          · exact h1.elim
    · exact q.elim
/-! ### name[ix] += e -/
theorem get_list : PGet X (rIxL X.K) := by
  intro pins s σ H x y v u Q I rx ry h
  obtain ⟨p, xs, i, z, rfl, rfl, hq, he, q⟩ := h
  cases rx
  obtain ⟨t, rfl⟩ := ry
  obtain ⟨its, r, pl, hz⟩ := I.list hq
  obtain ⟨j, h1, h2, h3, h4, h5⟩ := atI_get he
  obtain ⟨w, ew, rw'⟩ := r.get h2
  have hl := r.length
  have hn := line63
  have fin : EP X pins σ Q w s := ⟨z, H, I, rw', q⟩
  by_cases h0 : 0 ≤ i
  · have hj : i.toNat = j := by
      rw [seqIndex_of h0 h5] at h1
      exact Option.some.inj h1
    exact wpAny_getItem_list pl.isList h0 (by omega) (by rw [hj]; simpa using ew) fin
  · have hj : (i + (its.toArray.size : Int)).toNat = j := by
      rw [seqIndex_neg (by omega) h4] at h1
      rw [List.size_toArray, ← hl]
      exact Option.some.inj h1
    exact wpAny_getItem_list_neg pl.isList (by omega) (by rw [List.size_toArray] <;> omega) (by omega) (by rw [hj]; simpa using ew) fin
def augIK2 (i : Nat) (k : D) (z : Option D) (δ2 : En) : RS := match z with
  | some z => subK i z k δ2
  | none => .bad
def augIK (o : Bool) (i : Nat) (f : Den) (k : D) (s : Option O) (δ1 : En) : RS :=
  match k, s with
  | .int k, some (.lst ds) => (match atI ds k with
    | some x => bindES (f δ1) fun d δ2 => augIK2 i (.int k) (augD o x d) δ2
    | none => .bad)
  | _, _ => .bad
def sAugI (o : Bool) (i : Nat) (fi f : Den) : SDen := fun δ => match ownAt δ i with
  | some (.lst _) => bindES (fi δ) fun k δ1 => augIK o i f k (ownAt δ1 i) δ1
  | _ => .bad
theorem ms_augI {i : Nat} {x : Str} {ix e : Expr} {fi f : Den} {p spos : Pos} (o : Bool) (hx : PE X (.Name x p) (tVar i)) (hi : PE X ix (tM X.K W fi)) (he : PE X e (tM X.K W f))
    (ha : ∀ ov iv new, augStore ix ov iv new = (do holding [new, ov, iv] (setItem ov iv new); release [new, ov, iv] []; pure .next)) :
    PS X (.AugAssign (.Subscript (.Name x p) ix spos) (augOp o) e pos) (sM X.K W (sAugI o i fi f)) := by
  have ip : PIp X (augOp o) (ipI fun i j => if o then i + j else i - j) := by
    cases o with
    | true => exact ip_add
    | false => exact ip_sub
  refine PS_imp (ps_augS hx hi get_list he ip set_list ha) fun D σ H ⟨G, δ, H0, R, q⟩ => ?_
  unfold sAugI at q
  split at q
  · rename_i ds0 e0
    obtain ⟨a, hσ, n0, ne, vs, hv, rs⟩ := R.owned e0
    refine ⟨.ref a, hσ, G, δ, H0, R, PoS.bindE q fun k δ1 v H1 H' R1 r1 h1 => ?_⟩
    unfold augIK at h1
    split at h1
    · rename_i _ _ k' ds e1
      obtain ⟨a1, hσ1, n1, ne1, ws, hw, rs1⟩ := R1.owned e1
      rw [hσ] at hσ1
      cases hσ1
      cases r1
      split at h1
      · rename_i x0 ex
        obtain ⟨w0, hw0, rw0⟩ := reps_at rs1 ex
        refine ⟨a, ws, k', w0, rfl, rfl, .inl (.inl hw), hw0, G, δ1, H1, R1, ?_⟩
        cases ef : f δ1 with
        | bad => rw [ef] at h1; exact h1.elim
        | rz c δ2 => rw [ef] at h1; exact fun cls dd H2 H'' R2 s x => h1 cls dd σ H2 H'' R2 s x
        | ok d δ2 =>
          rw [ef] at h1
          have h1 : PoS X.K W G H1 (augIK2 i (.int k') (augD o x0 d) δ2) D := h1
          intro w H2 H'' R2 s2 r2
          cases ea : augD o x0 d with
          | none => rw [ea] at h1; exact h1.elim
          | some z =>
            rw [ea] at h1
            unfold augD at ea
            split at ea
            · rename_i m n
              cases ea
              cases rw0
              cases r2
              refine ⟨m, n, rfl, rfl, ?_⟩
              have h1 : PoS X.K W G H1 (subK i (.int (if o then m + n else m - n)) (.int k') δ2) D := h1
              unfold subK at h1
              split at h1
              · rename_i _ _ k2 ds2 ek e2
                cases ek
                obtain ⟨a2, hσ2, n2, ne2, ws2, hw2, rs2⟩ := R2.owned e2
                rw [hσ] at hσ2
                cases hσ2
                split at h1
                · rename_i j ej
                  exact ⟨a, ws2, k', j, rfl, rfl, hw2, by rw [rs2.length]; exact ej, h1 σ H2 _ (R2.wrote e2 hσ n2 ne2 ⟨_, upd_same, rs2.set (.int _) j⟩) s2⟩
                · exact h1.elim
              · exact h1.elim
            · cases ea
      · exact h1.elim
    · exact h1.elim
  · exact q.elim
/-- a, b, c = e, f, g with three plain names -/
def st3 (i j l : Nat) (a b c : D) (δ : En) : Option En := (stD i a δ).bind fun δ => (stD j b δ).bind fun δ => stD l c δ
def par3K (i j l : Nat) : RA → RS
  | .ok [a, b, c] δ => (match st3 i j l a b c δ with
    | some δ => .nx δ
    | none => .bad)
  | .rz c δ => .rz c δ
  | _ => .bad
def sPar3 (i j l : Nat) (fs : List Den) : SDen := fun δ => par3K i j l (dArgs fs δ)
theorem ms_par3 {st : Stmt} {i j l : Nat} {fs : List Den} (h : PS X st (tPar3 i j l (tA X.K W (dArgs fs)))) : PS X st (sM X.K W (sPar3 i j l fs)) :=
  PS_imp h fun D σ H ⟨G, δ, H0, R, q⟩ => ⟨G, δ, H0, R, by
    unfold sPar3 at q
    cases e : dArgs fs δ with
    | bad => rw [e] at q; exact q
    | rz c δ1 => rw [e] at q; exact fun cls dd H1 H' R1 s x => q cls dd σ H1 H' R1 s x
    | ok ds δ1 =>
      rw [e] at q
      intro vs H1 H' R1 s1 r1
      match ds, r1, q with
      | [d1, d2, d3], .cons ra (.cons rb (.cons rc .nil)), q =>
        have q : PoS X.K W G H0 (match st3 i j l d1 d2 d3 δ1 with
          | some δ => .nx δ
          | none => .bad) D := q
        unfold st3 at q
        cases e1 : stD i d1 δ1 with
        | none => rw [e1] at q; exact q.elim
        | some δ2 =>
          rw [e1] at q
          dsimp only [Option.bind] at q
          cases e2 : stD j d2 δ2 with
          | none => rw [e2] at q; exact q.elim
          | some δ3 =>
            rw [e2] at q
            dsimp only [Option.bind] at q
            cases e3 : stD l d3 δ3 with
            | none => rw [e3] at q; exact q.elim
            | some δ4 =>
              rw [e3] at q
              obtain ⟨rfl, np⟩ := stD_some e1
              obtain ⟨rfl, np2⟩ := stD_some e2
              obtain ⟨rfl, np3⟩ := stD_some e3
              exact ⟨_, _, _, rfl, q _ H1 H' (((R1.set_va ra np).set_va rb np2).set_va rc np3) s1⟩
      | [], r1, q => exact q.elim
      | [_], r1, q => exact q.elim
      | [_, _], r1, q => exact q.elim
      | _ :: _ :: _ :: _ :: _, r1, q => exact q.elim⟩
/-- a comparison with what a name holds, as it stands -/
def blK (o : Option D) (δ : En) : RE :=
  match o with
  | some (.bl b) => .ok (.bl b) δ
  | _ => .bad
def bKQ (g : D → D → Option D) (x : D) (o : Option D) (δ : En) : RE :=
  match o with
  | some d => blK (g x d) δ
  | none => .bad
def kCmpR (g : D → D → Option D) (i : Nat) : D → En → RE := fun x δ => bKQ g x (peek δ i) δ
def dCmpR (g : D → D → Option D) (i : Nat) (fa : Den) : Den := fun δ => bindE (fa δ) (kCmpR g i)
theorem cmpR_read {g : D → D → Option D} {i : Nat} {fa : Den} {σ : L2.St} {H : Hp} {Q : VK} (q : tM X.K W (dCmpR g i fa) σ H Q) : tM X.K W fa σ H fun v H1 => tVar i σ H1 fun w H2 => rM X.K g v w H2 Q := by
  obtain ⟨G, δ, H0, R, q⟩ := q
  refine ⟨G, δ, H0, R, PoE.bind q fun x δ1 v H1 H' R1 s1 r1 h1 => ?_⟩
  have h1 : PoE X.K W G σ H1 (bKQ g x (peek δ1 i) δ1) Q := h1
  cases e : peek δ1 i with
  | none => rw [e] at h1; exact h1.elim
  | some d =>
    rw [e] at h1
    have h1 : PoE X.K W G σ H1 (blK (g x d) δ1) Q := h1
    obtain ⟨w, h2, rv⟩ := R1.peek e
    refine ⟨w, h2, ?_⟩
    cases hz : g x d with
    | none => rw [hz] at h1; exact h1.elim
    | some z =>
      rw [hz] at h1
      cases z with
      | bl b =>
        refine ⟨H', x, d, .bl b, Same.refl _, r1.mono R1.hs, rv, hz, fun u H3 H'' gr r => ?_⟩
        cases r
        have h1 : PoE X.K W G σ H1 (.ok (.bl b) δ1) Q := h1
        exact h1.val (scal_grow R1 gr) (.bl b)
      | _ => exact h1.elim
theorem me_cmpR {op : CmpOp} {g : D → D → Option D} {i : Nat} {x : Str} {p : Pos} {a : Expr} {fa : Den} (ho : OpR X (compareOp op) (rM X.K g)) (ha : PE X a (tM X.K W fa)) (hx : PE X (.Name x p) (tVar i)) (hm : behindInMarks op (.Name x p) = false) : PE X (.Compare a [op] [.Name x p] pos) (tM X.K W (dCmpR g i fa)) :=
  PE_imp (pe_cmpR ho ha hx hm) fun σ H Q q => cmpR_read q
theorem mt_cmpR {op : CmpOp} {g : D → D → Option D} {i : Nat} {x : Str} {p : Pos} {a : Expr} {fa : Den} (ho : OpR X (compareOp op) (rM X.K g)) (ha : PE X a (tM X.K W fa)) (hx : PE X (.Name x p) (tVar i)) (hm : behindInMarks op (.Name x p) = false) : PT X (.Compare a [op] [.Name x p] pos) (tT X.K W (dCmpR g i fa)) :=
  PT_imp (pt_cmpR ho ha hx hm) fun σ H Q ⟨G, δ, H0, R, q⟩ => cmpR_read ⟨G, δ, H0, R, q.toE⟩
end
end Z

namespace Z
open PySem PySem.Spec PyProof.Rows L2
section
variable {X : Cx} {W : Wi} {pos : Pos}
/-! ### list(x) of a name that stays one's own -/
def listBK (s : Option Sl) (δ : En) : RF := match s with
  | some (.va (.lst ds)) => .ok (.lst ds) δ
  | some (.va (.tup ds)) => .ok (.lst ds) δ
  | some (.ow (.lst ds)) => .ok (.lst ds) δ
  | some (.pi (.lst ds)) => .ok (.lst ds) δ
  | _ => .bad
def fListB (i : Nat) : FDen := fun δ => listBK δ[i]? δ
theorem mf_listB {i : Nat} {x : Str} {p px : Pos} (hg : Gl X "list") (hm : X.mg "list" = none) (hx : PE X (.Name x px) (tVar i)) (he : starEach [.Name x px] X.env = [(false, eval (.Name x px) X.env)]) : PE X (.Call (.Name "list" p) [.Name x px] [] pos) (tF X.K W (fListB i)) :=
  PE_imp (pe_callTy (T := "list") call_list_of hg hm PyProof.Rows.boot_list (pa_cons hx pa_nil he) (by decide) (by decide) he rfl) fun σ H Q ⟨G, δ, H0, R, h⟩ => by
    unfold fListB listBK at h
    split at h
    · rename_i ds e
      obtain ⟨v, hσ, r⟩ := R.va_at e
      cases r with
      | lst q rs => exact ⟨_, hσ, _, _, rfl, .inl (R.hs.seq q), fun p hp => h.laid R hp ⟨_, upd_same, rs⟩⟩
    · rename_i ds e
      obtain ⟨v, hσ, r⟩ := R.va_at e
      cases r with
      | tup q rs => exact ⟨_, hσ, _, _, rfl, .inr (Same.seqT R.hs q), fun p hp => h.laid R hp ⟨_, upd_same, rs⟩⟩
    · rename_i ds e
      obtain ⟨a, hσ, n0, ne, vs, hv, rs⟩ := R.own_at e
      exact ⟨_, hσ, _, _, rfl, .inl (.inl (.inl hv)), fun p hp => h.laid R hp ⟨_, upd_same, rs⟩⟩
    · rename_i ds e
      obtain ⟨a, hσ, n0, ne, vs, hv, rs⟩ := R.pin_at e
      exact ⟨_, hσ, _, _, rfl, .inl (.inl (.inl hv)), fun p hp => h.laid R hp ⟨_, upd_same, rs⟩⟩
    · exact h.elim
/-! ### x = f(e, ..), the end one's own or not -/
inductive RC where
  | e (r : RE) | f (r : RF)
def PoC (K : PySem.W.Frag) (W : Wi) (G : Gh) (σ : L2.St) (H0 : Hp) (r : RC) (Q : VK) : Prop := match r with
  | .e r => PoE K W G σ H0 r Q
  | .f r => PoF K W G σ H0 r Q
def tCo (K : PySem.W.Frag) (W : Wi) (f : En → RC) : TE := fun σ H Q => ∃ G δ H0, Rl K G δ σ H0 H ∧ PoC K W G σ H0 (f δ) Q
def ofDC (r : RD) (δ : En) : RC := match r with
  | .ok d => .e (.ok d δ)
  | .ow o => .f (.ok o δ)
  | .rz c => .e (.rz c δ)
  | _ => .e .bad
def bindAC (r : RA) (k : List D → En → RC) : RC := match r with
  | .ok d δ => k d δ
  | .rz c δ => .e (.rz c δ)
  | .bad => .e .bad
def cCall (g : List D → RD) (fs : List Den) : En → RC := fun δ => bindAC (dArgs fs δ) fun ds δ1 => ofDC (g ds) δ1
theorem mc_call {CX : CXT} {k : Nat} {f : Addr} {fd : FuncData} {ps : List Str} {n : Nat} {ct : Nat → Addr} {x : Str} {p : Pos} {e : Expr} {es : List Expr} {g : List D → RD} {fs : List Den}
    (F : FnOk X.prog X.w X.K X.mg X.base CX k f fd ps (spD X.K ct n g)) (hr : Room k X.A) (hg : Gl X x) (hm : X.mg x = some (.ref f)) (hk : PySem.W.keepIn X.K (.ref f) = true) (hb : Binds X.K fd ps []) (hx : ∀ σ, PassesAt CX X σ (WE W.w σ)) (hdb : (x == ("__debug__" : Str)) = false)
    (ha : PA X (e :: es) (tA X.K W (dArgs fs))) (hl : fs.length = n) (hct : W.ct = ct)
    (he : starEach (e :: es) X.env = (false, eval e X.env) :: starEach es X.env) (hpl : (backTo pos (starEach es X.env)).any (·.1) = false) : PE X (.Call (.Name x p) (e :: es) [] pos) (tCo X.K W (cCall g fs)) := by
  refine PE_imp (pe_callS F hr hg hm hk hb hx ha hdb he hpl) fun σ H Q ⟨G, δ, H0, R, q⟩ => ⟨G, δ, H0, R, ?_⟩
  unfold cCall at q
  cases eA : dArgs fs δ with
  | bad => rw [eA] at q; exact q
  | rz c δ1 => rw [eA] at q; exact q
  | ok ds δ1 =>
    rw [eA] at q
    intro vs H1 H' R1 s1 r1
    refine ⟨H1, ds, R1.hs, r1, by rw [dArgs_len eA, hl], ?_⟩
    have q : PoC X.K W G σ H0 (ofDC (g ds) δ1) Q := q
    cases hg : g ds with
    | ok d => rw [hg] at q; exact fun v H2 H'' gr r => q v H2 H'' (R1.grow gr) (s1.trans gr.h0) r
    | ow o =>
      rw [hg] at q
      exact fun a H2 H'' gr n n0 ow => q a H2 H'' (R1.grow gr) (s1.trans gr.h0) n0 (R1.he_none n) ow (R1.own_ne n)
    | okp d o => rw [hg] at q; exact q.elim
    | owp d o => rw [hg] at q; exact q.elim
    | rz c => rw [hg] at q; exact fun cls dd H2 H'' gr x => q cls dd H2 H'' (R1.grow gr) (s1.trans gr.h0) (by rw [hct]; exact x)
    | bad => rw [hg] at q; exact q.elim
def setC (s : Option Sl) (i : Nat) (z : Sl) (δ : En) : RS := match s with
  | none => .bad
  | some (.pi _) => .bad
  | some _ => .nx (δ.set i z)
def setCK (i : Nat) : RC → RS
  | .e (.ok d δ) => setC δ[i]? i (.va d) δ
  | .f (.ok o δ) => setC δ[i]? i (.ow o) δ
  | .e (.rz c δ) => .rz c δ
  | .f (.rz c δ) => .rz c δ
  | _ => .bad
def sOwnC (i : Nat) (f : En → RC) : SDen := fun δ => setCK i (f δ)
theorem setC_nx {s : Option Sl} {i : Nat} {z : Sl} {δ : En} {K : PySem.W.Frag} {G : Gh} {H0 : Hp} {D : Ends} (h : PoS K W G H0 (setC s i z δ) D) : (∀ o, s ≠ some (.pi o)) ∧ PoS K W G H0 (.nx (δ.set i z)) D := by
  unfold setC at h
  split at h
  · exact h.elim
  · exact h.elim
  · rename_i t n
    exact ⟨fun o e => by cases e; exact n _ rfl, h⟩
theorem asg_oc {st : Stmt} {i : Nat} {t : TE} {f : En → RC} (h : PS X st (tAsg t (gName i))) (ht : ∀ σ H Q, tCo X.K W f σ H Q → t σ H Q) : PS X st (sM X.K W (sOwnC i f)) :=
  PS_imp h fun D σ H ⟨G, δ, H0, R, q⟩ => ht σ H _ ⟨G, δ, H0, R, by
    unfold sOwnC at q
    cases e : f δ with
    | e r =>
      rw [e] at q
      cases r with
      | bad => exact q.elim
      | rz c δ1 => exact fun cls dd H1 H' R1 s x => q cls dd σ H1 H' R1 s x
      | ok d δ1 =>
        have q : PoS X.K W G H0 (setC δ1[i]? i (.va d) δ1) D := q
        obtain ⟨np, q⟩ := setC_nx q
        exact fun v H1 H' R1 s r => q _ H1 H' (R1.set_va r np) s
    | f r =>
      rw [e] at q
      cases r with
      | bad => exact q.elim
      | rz c δ1 => exact fun cls dd H1 H' R1 s x => q cls dd σ H1 H' R1 s x
      | ok o δ1 =>
        have q : PoS X.K W G H0 (setC δ1[i]? i (.ow o) δ1) D := q
        obtain ⟨np, q⟩ := setC_nx q
        exact fun a H1 H' R1 s1 n0 ne w nw => q _ H1 H' (R1.set_ow n0 ne w np nw) s1⟩
def retCK : RC → RS
  | .e (.ok d δ) => .rt d δ
  | .f (.ok o δ) => .ro o δ
  | .e (.rz c δ) => .rz c δ
  | .f (.rz c δ) => .rz c δ
  | _ => .bad
def sRetC (f : En → RC) : SDen := fun δ => retCK (f δ)
theorem ms_retC {e : Expr} {f : En → RC} (he : PE X e (tCo X.K W f)) : PS X (.Return (some e) pos) (sM X.K W (sRetC f)) :=
  PS_imp (ps_ret he) fun D σ H ⟨G, δ, H0, R, q⟩ => ⟨G, δ, H0, R, by
    unfold sRetC at q
    cases e : f δ with
    | e r =>
      rw [e] at q
      cases r with
      | bad => exact q.elim
      | rz c δ1 => exact fun cls dd H1 H' R1 s x => q cls dd σ H1 H' R1 s x
      | ok d δ1 => exact fun v H1 H' R1 s r => q v σ H1 H' R1 s r
    | f r =>
      rw [e] at q
      cases r with
      | bad => exact q.elim
      | rz c δ1 => exact fun cls dd H1 H' R1 s x => q cls dd σ H1 H' R1 s x
      | ok o δ1 => exact fun a H1 H' R1 s n ne w nw => q a σ H1 H' R1 s n ne w nw⟩
end
end Z

namespace Z
open PySem PySem.Spec PyProof.Rows L2
/-! ### a def's text, once more, by slots -/
inductive Ty where
  | int | bool | tup | lst | str | dic
def Ty.s : Ty → String
  | .int => "int"
  | .bool => "bool"
  | .tup => "tuple"
  | .lst => "list"
  | .str => "str"
  | .dic => "dict"
def Ty.n (t : Ty) : Str := Str.ofString t.s
theorem Ty.boot (t : Ty) : bootBuiltins t.n = some (.type t.s) := by cases t <;> decide +kernel
theorem Ty.nn (t : Ty) : t.n ≠ "__name__" := by cases t <;> decide +kernel
theorem Ty.nd (t : Ty) : (t.n == ("__debug__" : Str)) = false := by cases t <;> decide +kernel
mutual
inductive E where
  | var (i : Nat) | int (i : Int) | str (s : Str) | bl (b : Bool) | non | glo (k : Nat)
  | bin (o : BOp) (a b : E) | neg (a : E) | not (a : E) | cmp (o : COp) (a b : E) | isc (neg : Bool) (a b : E)
  | and (es : Es) | or (es : Es) | ite (c a b : E) | tup (es : Es) | fr (f : F)
  | bi (b : Bi) (es : Es) | isi (ty : Ty) (a : E) | isi2 (t1 t2 : Ty) (a : E) | call (k : Nat) (es : Es)
  | idx (a b : E) | cut (a : E) (lo hi : Op) | stp (a : E) (lo hi : Op) (st : E) | ixO (i : Nat) (b : E) | lenO (i : Nat) | cmpB (o : COp) (i : Nat) (b : E)
  | callP (k i : Nat) (ps : Ps) | callB (k q i : Nat) (ps : Ps) | bad | isE (d : Nat) (a : E) | call0 (k : Nat) | dic0 | ind (i : Nat) (b : E)
  | callN (k : Nat) (f : F) | dst (a : E) | chn (o o' : COp) (a b c : E) | bitl (a : E) | cmpR (o : COp) (a : E) (i : Nat) | iscB (neg : Bool) (i : Nat)
inductive Op where
  | no | so (e : E)
inductive Es where
  | nil | cons (e : E) (es : Es)
inductive Ps where
  | nil | own (ps : Ps) | cons (e : E) (ps : Ps)
inductive F where
  | add (a b : E) | list (a : E) | rep (f : F) (n : Int) | call (k : Nat) (es : Es) | callP (k i : Nat) (ps : Ps) | lst (es : Es) | cut (a : E) (lo hi : Op) | stp (a : E) (lo hi : Op) (st : E) | comp (elt : E) (vs : List Nat) (tg : Tg) (it : I) (t : Op)
  | callN (k : Nat) (f : F) | dct (a : E) | dsp (ks vs : Es) | listB (i : Nat)
inductive I where
  | seq (e : E) | rng1 (a : E) | rng2 (a b : E) | zip (a b : E) | enum (a : E) | rng3 (a b c : E) | own (i : Nat)
end
/-- a name whose list stays one's own -/
def I.ow : I → Option Nat
  | .own i => some i
  | _ => none
/-- a def that may be called: its name, how many parameters, what it gives -/
structure Fd where
  name : Str
  ar : Nat
  pin : Option Nat
  sem : List D → RD
/-- hfns: what may be called while an exception is handled; rs: the classes that are raised; qs: those that are asked for -/
structure Tab where
  fns : List Fd
  cons : List (Str × D)
  bis : List Str
  hfns : List Fd
  rs : List Nat
  qs : List Nat
/-- is the one class under the other? -/
def subE (c d : Nat) : Bool := c == d || d == 0 || d == 15
def isED (rs : List Nat) (d : Nat) : D → Option D
  | .exc c => if rs.contains c then some (.bl (subE c d)) else none
  | _ => none
/-! ### its meaning -/
def isD (neg : Bool) : D → D → Option D
  | .bl a, .bl b => some (.bl (if neg then !decide (a = b) else decide (a = b)))
  | .non, .non => some (.bl (!neg))
  | _, .non => some (.bl neg)
  | _, _ => none
mutual
def E.den (T : Tab) : E → Den
  | .var i => dVar i
  | .int i => dCst (.int i)
  | .str s => dCst (.str s)
  | .bl b => dCst (.bl b)
  | .non => dCst .non
  | .glo k => match T.cons[k]? with
    | some p => dCst p.2
    | none => fun _ => .bad
  | .bin o a b => dBin o.fn (a.den T) (b.den T)
  | .neg a => dUn negD (a.den T)
  | .not a => dUn notD (a.den T)
  | .cmp o a b => dBin o.fn (a.den T) (b.den T)
  | .isc n a b => dBin (isD n) (a.den T) (b.den T)
  | .and es => dAnds (es.den T)
  | .or es => dOrs (es.den T)
  | .ite c a b => dIte (c.den T) (a.den T) (b.den T)
  | .tup es => dTup (es.den T)
  | .fr f => dFr (f.den T)
  | .bi b es => dBi b.fn (es.den T)
  | .isi ty a => dUn (isiD ty.s) (a.den T)
  | .isi2 t1 t2 a => dUn (isi2D t1.s t2.s) (a.den T)
  | .call k es => match T.fns[k]? with
    | some p => dCall p.sem (es.den T)
    | none => fun _ => .bad
  | .idx a b => dBin idxD (a.den T) (b.den T)
  | .cut a lo hi => dCut (a.den T) (lo.den T) (hi.den T)
  | .stp a lo hi st => dStp (a.den T) (lo.den T) (hi.den T) (some (st.den T))
  | .ixO i b => dIxO i (b.den T)
  | .lenO i => dLenO i
  | .cmpB o i b => dCmpB o.fn i (b.den T)
  | .callP k i ps => match T.fns[k]? with
    | some p => dCallP p.sem (p.pin.getD 0) i (ps.den T)
    | none => fun _ => .bad
  | .callB k q i ps => match T.fns[k]? with
    | some p => dCallB p.sem q i (ps.den T)
    | none => fun _ => .bad
  | .bad => dBad
  | .isE d a => dUn (isED T.rs d) (a.den T)
  | .call0 k => match T.fns[k]? with
    | some p => dCall p.sem []
    | none => fun _ => .bad
  | .dic0 => fun δ => .ok (.dic [] []) δ
  | .ind i b => dInd i (b.den T)
  | .callN k f => match T.fns[k]? with
    | some p => dCallN p.sem (f.den T)
    | none => fun _ => .bad
  | .dst a => dUn dstD (a.den T)
  | .chn o o' a b c => dChn o.fn o'.fn (a.den T) (b.den T) (c.den T)
  | .bitl a => dUn bitD (a.den T)
  | .cmpR o a i => dCmpR o.fn i (a.den T)
  | .iscB n i => dCmpB (isD n) i (dCst .non)
def Op.den (T : Tab) : Op → Option Den
  | .no => none
  | .so e => some (e.den T)
def Es.den (T : Tab) : Es → List Den
  | .nil => []
  | .cons e es => e.den T :: es.den T
def Ps.den (T : Tab) : Ps → List (Option Den)
  | .nil => []
  | .own ps => none :: ps.den T
  | .cons e ps => some (e.den T) :: ps.den T
def F.den (T : Tab) : F → FDen
  | .add a b => fAdd (a.den T) (b.den T)
  | .list a => fList (a.den T)
  | .rep f n => fRep (f.den T) n
  | .call k es => match T.fns[k]? with
    | some p => fCall p.sem (es.den T)
    | none => fun _ => .bad
  | .callP k i ps => match T.fns[k]? with
    | some p => fCallP p.sem (p.pin.getD 0) i (ps.den T)
    | none => fun _ => .bad
  | .lst es => fLst (es.den T)
  | .callN k f => match T.fns[k]? with
    | some p => fCallN p.sem (f.den T)
    | none => fun _ => .bad
  | .dct a => fDct (a.den T)
  | .listB i => fListB i
  | .dsp ks vs => fDsp ((ks.den T).zip (vs.den T))
  | .cut a lo hi => fCut (a.den T) (lo.den T) (hi.den T)
  | .stp a lo hi st => fStp (a.den T) (lo.den T) (hi.den T) (some (st.den T))
  | .comp elt vs tg it t => fCompI it.ow (it.den T) tg.st (t.den T) (elt.den T) vs
def I.den (T : Tab) : I → En → RI
  | .seq e => iSeq (e.den T)
  | .rng1 a => iRng [a.den T]
  | .rng2 a b => iRng [a.den T, b.den T]
  | .rng3 a b c => iLs rng3L [a.den T, b.den T, c.den T]
  | .zip a b => iLs zipL [a.den T, b.den T]
  | .enum a => iLs enuL [a.den T]
  | .own i => iSeq (dVar i)
end
/-! ### a look: the text is the one that the form tells -/
/-- mode: 0 nothing is handled; 1 a def's body while an exception is handled; 2 an except suite -/
structure SC where
  N : List Str
  names : List (Str × NameKind)
  mode : Nat

def notStar : Expr → Bool
  | .Starred .. => false
  | _ => true
def notSlice : Expr → Bool
  | .Slice .. => false
  | _ => true
def notSet : Expr → Bool
  | .Set .. => false
  | _ => true
def notComp : Expr → Bool
  | .ListComp .. => false
  | .SetComp .. => false
  | .DictComp .. => false
  | _ => true
/-- as a test it is no form of its own -/
def plainT : Expr → Bool
  | .UnaryOp .Not _ _ => false
  | .BoolOp .. => false
  | .IfExp .. => false
  | .Compare .. => false
  | _ => true
def plainE (x : Expr) : Bool := notStar x && notSlice x && notSet x
theorem starEach_of {x : Expr} (h : notStar x = true) (xs : List Expr) (env : Env) : starEach (x :: xs) env = (false, eval x env) :: starEach xs env := by
  cases x <;> first | rfl | cases h
theorem plainIx_of {x : Expr} (h : notSlice x = true) : PlainIx x := fun o i => by
  cases x <;> first | rfl | cases h
theorem behind_of {x : Expr} (h : notSet x = true) (op : CmpOp) : behindInMarks op x = false := by
  cases x <;> first | rfl | cases h
theorem folded_of {x : Expr} (h : notSet x = true) (env : Env) (v : Value) : foldedSetIterable x env v = pure v := by
  cases x <;> first | rfl | cases h
theorem swaps_of {x : Expr} (h : notComp x = true) (t : Option Expr) (l : Nat) (env : Env) : swapsWith x t l env = pure false := by
  cases x <;> first | rfl | cases h
theorem isTrue_of {x : Expr} (h : plainT x = true) (env : Env) (whole : Sem Value) : isTrue x env whole = (do let v ← whole; standAt x.pos; holding [v] (truthy v)) := by
  cases x <;> first | rfl | cases h | (rename_i op _ _; cases op <;> first | rfl | cases h)
def SC.vis (S : SC) (x : Str) : Bool := decide (S.names.lookup x = some .local) || decide (S.names.lookup x = some .cell) || decide (S.names.lookup x = some .free)
def SC.loc (S : SC) (x : Str) : Bool := decide (S.names.lookup x = some .local) || decide (S.names.lookup x = some .cell)
def SC.gl (S : SC) (x : Str) : Bool := decide (S.names.lookup x = some .globalImplicit)
def SC.at (S : SC) (i : Nat) (x : Str) : Bool := decide (S.N[i]? = some x) && S.vis x && !(x == ("__debug__" : Str)) && !(x == ("__classdict__" : Str))
def Tab.gb (T : Tab) (S : SC) (x : Str) : Bool := S.gl x && decide (x ∈ T.bis) && !(x == ("__debug__" : Str))
/-- the names within a comprehension's block -/
def SC.inner (S : SC) (scope : Scope) : SC :=
  { S with mode := if S.mode == 1 then 2 else S.mode, names := scope.names.map fun (n, k) => if (k == .free && S.names.lookup n == some .cell) then (n, .cell) else (n, k) }
def ownOf (S : SC) (vs : List Nat) : List (Str × Nat) := vs.map fun v => (S.N.getD v "", v)
def blkS (S : SC) (scope : Scope) (own : List (Str × Nat)) : Bool :=
  (match scope.kind with | .function => true | _ => false) && (scope.names.all fun y => decide (scope.names.lookup y.1 = some y.2)) && (own.all fun p => decide (S.N[p.2]? = some p.1)) &&
    (scope.names.all fun y => match y.2 with
      | .free => (match S.names.lookup y.1 with | some .cell => true | some .free => true | _ => false)
      | .local => decide (y.1 ∈ own.map (·.1)) || decide (y.1 ∉ S.N)
      | .cell => decide (y.1 ∈ own.map (·.1)) || decide (y.1 ∉ S.N)
      | _ => true)
/-- a name that is stored -/
def SC.st (S : SC) (i : Nat) (x : Str) : Bool := decide (S.N[i]? = some x) && S.loc x
/-- .. in a block: its own -/
def tgN (ok : Nat → Str → Bool) : List Nat → List Expr → Bool
  | [], [] => true
  | i :: is, .Name x _ :: xs => ok i x && tgN ok is xs
  | _, _ => false
def tgNs (ok : Nat → Str → Bool) : List (List Nat) → List Expr → Bool
  | [], [] => true
  | is :: iss, .Tuple ys _ _ :: xs => tgN ok is ys && tgNs ok iss xs
  | _, _ => false
def Tg.ck (ok : Nat → Str → Bool) : Tg → Expr → Bool
  | .var i, .Name x _ => ok i x
  | .tup is, .Tuple xs _ _ => tgN ok is xs
  | .nst iss, .Tuple xs _ _ => tgNs ok iss xs
  | _, _ => false
def Tg.isVar : Tg → Bool
  | .var _ => true
  | _ => false
def isTup : Expr → Bool
  | .Tuple .. => true
  | _ => false
/-- what the target must be -/
def I.tgk : I → Expr → Bool
  | .zip _ _, t => isTup t
  | .enum _, t => isTup t
  | _, _ => true
/-- where an exception is handled, a def's body may go over range alone -/
def I.md : I → Nat → Bool
  | _, 0 => true
  | .rng1 _, 1 => true
  | _, _ => false
/-- the one place left open -/
def Ps.opn : Ps → Nat → Bool
  | .own ps, 0 => Ps.opn.shut ps
  | .cons _ ps, n + 1 => ps.opn n
  | _, _ => false
where shut : Ps → Bool
  | .nil => true
  | .cons _ ps => shut ps
  | .own _ => false
mutual
def E.ck (T : Tab) (S : SC) : E → Expr → Bool
  | .var i, .Name x _ => S.at i x
  | .int i, .Constant (.int j) _ _ => decide (i = j)
  | .str s, .Constant (.str z) _ _ => decide (s = z)
  | .bl b, .Constant (.bool c) _ _ => decide (b = c)
  | .non, .Constant .none _ _ => true
  | .glo k, .Name x _ => S.gl x && !(x == ("__debug__" : Str)) && (match T.cons[k]? with
    | some p => decide (p.1 = x)
    | none => false)
  | .bin o a b, .BinOp x op y _ => decide (op = o.op) && a.ck T S x && b.ck T S y
  | .neg a, .UnaryOp .USub x _ => a.ck T S x
  | .not a, .UnaryOp .Not x _ => a.ck T S x
  | .cmp o a b, .Compare x [op] [y] _ => decide (op = o.op) && a.ck T S x && b.ck T S y && notSet y
  | .isc n a b, .Compare x [op] [y] _ => decide (op = if n then .IsNot else .Is) && a.ck T S x && b.ck T S y && notSet y
  | .and es, .BoolOp .And xs _ => es.ck T S xs && !xs.isEmpty
  | .or es, .BoolOp .Or xs _ => es.ck T S xs && !xs.isEmpty
  | .ite c a b, .IfExp x y z _ => c.ck T S x && a.ck T S y && b.ck T S z
  | .tup es, .Tuple xs _ _ => es.ck T S xs
  | .fr f, x => f.ck T S x
  | .bi b es, .Call (.Name x _) (y :: ys) [] _ => S.mode == 0 && decide (x = b.name) && T.gb S x && es.ck T S (y :: ys)
  | .isi2 t1 t2 a, .Call (.Name x _) [y, .Tuple [.Name z1 _, .Name z2 _] _ _] [] _ => decide (x = "isinstance") && T.gb S x && decide (z1 = t1.n) && T.gb S z1 && decide (z2 = t2.n) && T.gb S z2 && a.ck T S y && notStar y
  | .isi ty a, .Call (.Name x _) [y, .Name z _] [] _ => decide (x = "isinstance") && T.gb S x && decide (z = ty.n) && T.gb S z && a.ck T S y && notStar y
  | .call k es, .Call (.Name x _) (y :: ys) [] _ => S.mode == 0 && S.gl x && !(x == ("__debug__" : Str)) && (match T.fns[k]? with
    | some p => decide (p.name = x) && decide (p.ar = (y :: ys).length) && p.pin.isNone
    | none => false) && es.ck T S (y :: ys)
  | .callP k i ps, .Call (.Name x _) (y :: ys) [] _ => S.mode == 0 && S.gl x && !(x == ("__debug__" : Str)) && (match T.fns[k]? with
    | some p => decide (p.name = x) && decide (p.ar = (y :: ys).length) && p.pin.isSome && ps.opn (p.pin.getD 0)
    | none => false) && ps.ck T S i (y :: ys)
  | .callB k q i ps, .Call (.Name x _) (y :: ys) [] _ => S.mode == 0 && S.gl x && !(x == ("__debug__" : Str)) && (match T.fns[k]? with
    | some p => decide (p.name = x) && decide (p.ar = (y :: ys).length) && p.pin.isNone && ps.opn q
    | none => false) && ps.ck T S i (y :: ys)
  | .bad, x => notComp x
  | .isE d a, .Call (.Name x _) [y, .Name z _] [] _ => decide (x = "isinstance") && T.gb S x && decide (z = exNm d) && (if d == 15 then T.gb S z else S.gl z) && decide (d ∈ T.qs) && a.ck T S y && notStar y
  | .call0 k, .Call (.Name x _) [] [] _ => S.mode == 0 && S.gl x && !(x == ("__debug__" : Str)) && (match T.fns[k]? with
    | some p => decide (p.name = x) && decide (p.ar = 0) && p.pin.isNone
    | none => false)
  | .callN k f, .Call (.Name x _) [y] [] _ => S.mode == 0 && S.gl x && !(x == ("__debug__" : Str)) && (match T.fns[k]? with
    | some p => decide (p.name = x) && decide (p.ar = 1) && decide (p.pin = some 0)
    | none => false) && f.ck T S y && notStar y
  | .dst a, .Call (.Name x _) [.Call (.Name z _) [y] [] _] [] _ => S.mode == 0 && decide (x = "len") && T.gb S x && decide (z = "set") && T.gb S z && a.ck T S y && notStar y
  | .chn o o' a b c, .Compare x [op, op'] [y, z] _ => decide (op = o.op) && decide (op' = o'.op) && a.ck T S x && b.ck T S y && c.ck T S z && notSet z
  | .bitl a, .Call (.Attribute (.Name n q) m ap) [] [] cp => decide (m = "bit_length") && (ap.endLine == cp.line) && a.ck T S (.Name n q)
  | .cmpR o a i, .Compare y [op] [.Name x _] _ => decide (op = o.op) && a.ck T S y && S.at i x
  | .iscB n i, .Compare (.Name x _) [op] [.Constant .none _ _] _ => decide (op = if n then .IsNot else .Is) && S.at i x
  | .dic0, .Dict [] [] _ => true
  | .ind i b, .Call (.Attribute (.Name x _) m ap) [y] [] cp => S.at i x && decide (m = "index") && (ap.endLine == cp.line) && b.ck T S y && notStar y
  | .idx a b, .Subscript x y _ => a.ck T S x && b.ck T S y && notSlice y
  | .cut a lo hi, .Subscript x (.Slice l h none _) _ => a.ck T S x && lo.ck T S l && hi.ck T S h
  | .stp a lo hi st, .Subscript x (.Slice l h (some s) _) _ => a.ck T S x && lo.ck T S l && hi.ck T S h && st.ck T S s
  | .ixO i b, .Subscript (.Name x _) y _ => S.at i x && b.ck T S y && notSlice y
  | .cmpB o i b, .Compare (.Name x _) [op] [y] _ => decide (op = o.op) && S.at i x && b.ck T S y && notSet y
  | .lenO i, .Call (.Name z _) [.Name x _] [] _ => S.mode == 0 && decide (z = "len") && T.gb S z && S.at i x
  | _, _ => false
def Op.ck (T : Tab) (S : SC) : Op → Option Expr → Bool
  | .no, none => true
  | .so e, some x => e.ck T S x
  | _, _ => false
def Es.ck (T : Tab) (S : SC) : Es → List Expr → Bool
  | .nil, [] => true
  | .cons e es, x :: xs => e.ck T S x && notStar x && es.ck T S xs
  | _, _ => false
def Ps.ck (T : Tab) (S : SC) (i : Nat) : Ps → List Expr → Bool
  | .nil, [] => true
  | .own ps, .Name n _ :: xs => S.at i n && ps.ck T S i xs
  | .cons e ps, x :: xs => e.ck T S x && notStar x && ps.ck T S i xs
  | _, _ => false
def F.ck (T : Tab) (S : SC) : F → Expr → Bool
  | .add a b, .BinOp x .Add y _ => a.ck T S x && b.ck T S y
  | .rep f n, .BinOp x .Mult (.Constant (.int j) _ _) _ => f.ck T S x && decide (n = j)
  | .list a, .Call (.Name x _) [y] [] _ => decide (x = "list") && T.gb S x && a.ck T S y && notStar y
  | .listB i, .Call (.Name x _) [.Name y _] [] _ => decide (x = "list") && T.gb S x && S.at i y
  | .call k es, .Call (.Name x _) (y :: ys) [] _ => S.mode == 0 && S.gl x && !(x == ("__debug__" : Str)) && (match T.fns[k]? with
    | some p => decide (p.name = x) && decide (p.ar = (y :: ys).length) && p.pin.isNone
    | none => false) && es.ck T S (y :: ys)
  | .callP k i ps, .Call (.Name x _) (y :: ys) [] _ => S.mode == 0 && S.gl x && !(x == ("__debug__" : Str)) && (match T.fns[k]? with
    | some p => decide (p.name = x) && decide (p.ar = (y :: ys).length) && p.pin.isSome && ps.opn (p.pin.getD 0)
    | none => false) && ps.ck T S i (y :: ys)
  | .callN k f, .Call (.Name x _) [y] [] _ => S.mode == 0 && S.gl x && !(x == ("__debug__" : Str)) && (match T.fns[k]? with
    | some p => decide (p.name = x) && decide (p.ar = 1) && decide (p.pin = some 0)
    | none => false) && f.ck T S y && notStar y
  | .dct a, .Call (.Name x _) [y] [] _ => S.mode == 0 && decide (x = "dict") && T.gb S x && a.ck T S y && notStar y
  | .dsp ks vs, .Dict keys values _ => keys.all (·.isSome) && ks.ck T S (keys.filterMap id) && vs.ck T S values && decide (keys.length = values.length) && !keys.isEmpty && decide (keys.length ≤ 15)
  | .lst es, .List xs _ => es.ck T S xs
  | .cut a lo hi, .Subscript x (.Slice l h none _) _ => a.ck T S x && lo.ck T S l && hi.ck T S h
  | .stp a lo hi st, .Subscript x (.Slice l h (some s) _) _ => a.ck T S x && lo.ck T S l && hi.ck T S h && st.ck T S s
  | .comp elt vs tg it t, .ListComp x [⟨y, z, ifs, 0⟩] scope _ => it.md S.mode && (S.mode == 0 || tg.isVar) && it.ck T S z && notSet z && blkS S scope (ownOf S vs) && tg.slots.all (fun j => decide (j ∈ vs)) && it.tgk y &&
      tg.ck (fun i n => decide (S.N[i]? = some n) && (decide ((S.inner scope).names.lookup n = some .local) || (decide ((S.inner scope).names.lookup n = some .cell) && decide (scope.names.lookup n = some .cell)))) y && elt.ck T (S.inner scope) x && decide (ifs.length ≤ 1) && t.ck T (S.inner scope) ifs.head?
  | _, _ => false
def I.ck (T : Tab) (S : SC) : I → Expr → Bool
  | .seq e, x => e.ck T S x
  | .rng1 a, .Call (.Name x _) [y] [] _ => decide (x = "range") && T.gb S x && a.ck T S y && notStar y
  | .rng2 a b, .Call (.Name x _) [y, z] [] _ => decide (x = "range") && T.gb S x && a.ck T S y && notStar y && b.ck T S z && notStar z
  | .rng3 a b c, .Call (.Name x _) [y, z, w] [] _ => decide (x = "range") && T.gb S x && a.ck T S y && notStar y && b.ck T S z && notStar z && c.ck T S w && notStar w
  | .zip a b, .Call (.Name x _) [y, z] [] _ => decide (x = "zip") && T.gb S x && a.ck T S y && notStar y && b.ck T S z && notStar z
  | .enum a, .Call (.Name x _) [y] [] _ => decide (x = "enumerate") && T.gb S x && a.ck T S y && notStar y
  | .own i, .Name x _ => S.at i x
  | _, _ => false
end
end Z

namespace Z
open PySem PySem.Spec PyProof.Rows L2
/-- what it promises -/
def spF (K : PySem.W.Frag) (ct : Nat → Addr) (p : Fd) : Sp := match p.pin with
  | none => spD K ct p.ar p.sem
  | some q => spP K p.ar q p.sem
def Ready (X : Cx) (ct : Nat → Addr) (p : Fd) : Prop := ∃ (k : Nat) (f : Addr) (fd : FuncData) (ps : List Str), FnOk X.prog X.w X.K X.mg X.base (L2N.CX X.prog X.w) k f fd ps (spF X.K ct p) ∧ Room k X.A ∧ X.mg p.name = some (.ref f) ∧ PySem.W.keepIn X.K (.ref f) = true ∧ Binds X.K fd ps []
def ReadyH (X : Cx) (ct : Nat → Addr) (p : Fd) : Prop := ∃ (k : Nat) (f : Addr) (fd : FuncData) (ps : List Str), FnT X.prog X.w X.K X.mg X.base k f fd ps (spD X.K ct p.ar p.sem) ∧ L2H.RoomH k X.A ∧ X.mg p.name = some (.ref f) ∧ PySem.W.keepIn X.K (.ref f) = true ∧ Binds X.K fd ps []
def clsV (K : PySem.W.Frag) (d : Nat) : Value := if d = 15 then .type "ValueError" else .ref (ctOf K d)
/-- what a raised class must say -/
structure ExcK (K : PySem.W.Frag) (mg : Str → Option Value) (qs : List Nat) (c : Nat) : Prop where
  mgc : mg (exNm c) = some (.ref (ctOf K c))
  kp : PySem.W.keepIn K (.ref (ctOf K c)) = true
  mx : PySem.W.excIn K (ctOf K c) [.type "ValueError", .type "Exception", .type "BaseException", .type "object"] "ValueError.__new__" = true
  ec : ExcC K (ctOf K c)
  ty : PySem.W.typeIn K (.ref (ctOf K c)) = some (.type "type")
  nd : (exNm c == ("__debug__" : Str)) = false
  it : ∀ d ∈ qs, PySem.W.kitOne K (.ref (ctOf K c)) (clsV K d) = some (subE c d)
  ex : ∀ d ∈ qs, d ≠ 15 → PySem.W.exmOne K (.ref (ctOf K c)) (clsV K d) = some (subE c d)
structure OkX (T : Tab) (S : SC) (X : Cx) (W : Wi) : Prop where
  N : X.N = S.N
  nd : X.N.Nodup
  names : X.env.scope.names = S.names
  kind : X.env.scope.kind = .function
  calm : S.mode = 0 → X.calm = true
  hot : S.mode = 1 → HotX X
  hu : X.A.units + 65 < cLine
  tk : L2N.Takes X W.w
  call : S.mode = 0 → ∀ (k : Nat) (p : Fd), T.fns[k]? = some p → Ready X W.ct p
  ct : W.ct = ctOf X.K
  exc : ∀ c ∈ T.rs, ExcK X.K X.mg T.qs c
  ask : ∀ d ∈ T.qs, d ≠ 15 → X.mg (exNm d) = some (.ref (ctOf X.K d)) ∧ (exNm d == ("__debug__" : Str)) = false
  bi : ∀ x ∈ T.bis, X.mg x = none
  glo : ∀ (k : Nat) (p : Str × D), T.cons[k]? = some p → ∃ u v, X.mg p.1 = some u ∧ RelV v u ∧ ∀ H, Rep X.K H v p.2
section
variable {T : Tab} {S : SC} {X : Cx} {W : Wi} {pos : Pos}
theorem OkX.at (O : OkX T S X W) {i : Nat} {x : Str} {p : Pos} (h : S.at i x = true) : PE X (.Name x p) (tVar i) := by
  unfold SC.at SC.vis at h
  simp only [Bool.and_eq_true, Bool.or_eq_true, decide_eq_true_eq, Bool.not_eq_true'] at h
  obtain ⟨⟨⟨h1, h2⟩, h3⟩, h4⟩ := h
  refine pe_var (by rw [O.N]; exact h1) ?_ h3 h4
  unfold Vis
  rw [O.names]
  rcases h2 with (h2 | h2) | h2
  · exact .inl h2
  · exact .inr (.inl h2)
  · exact .inr (.inr h2)
theorem OkX.gl (O : OkX T S X W) {x : Str} (h : S.gl x = true) : Gl X x := by
  unfold SC.gl at h
  unfold Gl Env.kindOf
  rw [O.names]
  exact of_decide_eq_true h
theorem OkX.gb (O : OkX T S X W) {x : Str} (h : T.gb S x = true) : Gl X x ∧ X.mg x = none ∧ (x == ("__debug__" : Str)) = false := by
  unfold Tab.gb at h
  simp only [Bool.and_eq_true, decide_eq_true_eq, Bool.not_eq_true'] at h
  exact ⟨O.gl h.1.1, O.bi x h.1.2, h.2⟩
theorem OkX.loc (O : OkX T S X W) {x : Str} (h : S.loc x = true) : L2.Loc X.env.scope x := by
  unfold SC.loc at h
  simp only [Bool.or_eq_true, decide_eq_true_eq] at h
  unfold L2.Loc
  rw [O.names]
  exact h
theorem takesN {X : Cx} : L2N.Takes X (fun _ _ _ _ => False) := fun _ _ x => by
  obtain ⟨_, _, _, _, _, _, _, _, _, _, _, _, _, _, _, _, z⟩ := x
  exact z.elim
theorem inner_0 {S : SC} {scope : Scope} (h : (S.inner scope).mode = 0) : S.mode = 0 := by
  unfold SC.inner at h
  dsimp only at h
  split at h
  · cases h
  · exact h
theorem inner_1 (S : SC) (scope : Scope) : ¬ (S.inner scope).mode = 1 := by
  intro h
  unfold SC.inner at h
  dsimp only at h
  split at h
  · cases h
  · rename_i n
    rw [h] at n
    exact n rfl
/-- in the block of a comprehension -/
theorem OkX.blk (O : OkX T S X W) {scope : Scope} (hk : scope.kind = .function) (s : Shared) (H : Hp) (C : Addr) (cl : List (Str × Addr)) (fp : List Addr) :
    OkX T (S.inner scope) (X.blk s H scope (compEnvC scope cl C X.env) fp) (Wi.none W.ct) where
  N := O.N
  nd := O.nd
  names := by
    show (scope.names.map fun (n, k) => if (k == NameKind.free && X.env.scope.kind == ScopeKind.function && X.env.kindOf n == some NameKind.cell) then (n, NameKind.cell) else (n, k)) = _
    unfold SC.inner
    show _ = scope.names.map _
    refine List.map_congr_left fun y _ => ?_
    obtain ⟨n, k⟩ := y
    have e : (X.env.scope.kind == ScopeKind.function) = true := by rw [O.kind]; rfl
    show (if (k == NameKind.free && X.env.scope.kind == ScopeKind.function && X.env.scope.names.lookup n == some NameKind.cell) = true then _ else _) = _
    rw [e, O.names, Bool.and_true]
  kind := hk
  calm := fun e => O.calm (inner_0 e)
  hot := fun e => absurd e (inner_1 _ _)
  hu := O.hu
  tk := takesN
  call := fun e => O.call (inner_0 e)
  ct := O.ct
  exc := O.exc
  ask := O.ask
  bi := O.bi
  glo := O.glo
inductive AllG (X : Cx) (W : Wi) : List Expr → List Den → Prop
  | nil : AllG X W [] []
  | cons {x : Expr} {xs : List Expr} {f : Den} {fs : List Den} : PE X x (tM X.K W f) → PT X x (tT X.K W f) → notStar x = true → AllG X W xs fs → AllG X W (x :: xs) (f :: fs)
theorem AllG.len : ∀ {xs : List Expr} {fs : List Den}, AllG X W xs fs → xs.length = fs.length
  | _, _, .nil => rfl
  | _, _, .cons _ _ _ r => by rw [List.length_cons, List.length_cons, r.len]
theorem AllG.args : ∀ {xs : List Expr} {fs : List Den}, AllG X W xs fs → PA X xs (tA X.K W (dArgs fs))
  | _, _, .nil => ma_nil
  | _, _, .cons h _ n r => ma_cons h r.args (starEach_of n _ _)
theorem AllG.plain : ∀ {xs : List Expr} {fs : List Den}, AllG X W xs fs → (backTo pos (starEach xs X.env)).any (·.1) = false
  | _, _, .nil => rfl
  | _, _, .cons (x := x) (xs := xs) h _ n r => by
    rw [starEach_of n]
    show (false || (backTo pos (starEach xs X.env)).any (·.1)) = false
    rw [r.plain]
    rfl
theorem AllG.ns {x : Expr} {xs : List Expr} {fs : List Den} (h : AllG X W (x :: xs) fs) : notStar x = true ∧ (backTo pos (starEach xs X.env)).any (·.1) = false := by
  cases h with
  | cons _ _ n r => exact ⟨n, r.plain⟩
theorem AllG.and_ : ∀ {xs : List Expr} {fs : List Den}, AllG X W xs fs → xs ≠ [] → PE X (.BoolOp .And xs pos) (tM X.K W (dAnds fs)) ∧ PW X (.BoolOp .And xs pos) (tT X.K W (dAnds fs))
  | _, _, .nil, h => absurd rfl h
  | _, _, .cons h t n .nil, _ => ⟨pe_one h, pw_and1 t⟩
  | _, _, .cons h t n (.cons h2 t2 n2 r), _ => by
    obtain ⟨a, b⟩ := AllG.and_ (.cons h2 t2 n2 r) (by simp)
    exact ⟨me_and h a, mw_and t b⟩
theorem AllG.or_ : ∀ {xs : List Expr} {fs : List Den}, AllG X W xs fs → xs ≠ [] → PE X (.BoolOp .Or xs pos) (tM X.K W (dOrs fs)) ∧ PW X (.BoolOp .Or xs pos) (tT X.K W (dOrs fs))
  | _, _, .nil, h => absurd rfl h
  | _, _, .cons h t n .nil, _ => ⟨pe_one h, pw_or1 t⟩
  | _, _, .cons h t n (.cons h2 t2 n2 r), _ => by
    obtain ⟨a, b⟩ := AllG.or_ (.cons h2 t2 n2 r) (by simp)
    exact ⟨me_or h a, mw_or t b⟩
theorem mt_ite {c a b : Expr} {fc fa fb : Den} (hc : PT X c (tT X.K W fc)) (ha : PT X a (tT X.K W fa)) (hb : PT X b (tT X.K W fb)) : PT X (.IfExp c a b pos) (tT X.K W (dIte fc fa fb)) := by
  refine ⟨fun pins s σ H Q I ⟨G, δ, H0, R, h⟩ => ?_⟩
  show wpAny _ _ (do if ← isTrue c X.env (eval c X.env) then isTrue a X.env (eval a X.env) else isTrue b X.env (eval b X.env)) _ _ _
  refine wpAny_bind (thn (hc.run pins s σ H (fun b' H' => if b' = true then tT X.K W fa σ H' Q else tT X.K W fb σ H' Q) I ⟨G, δ, H0, R, PoT.bindQ h fun k δ1 H1 H' R1 s1 h1 => by
    cases k with
    | true => exact ⟨G, δ1, H1, R1, h1⟩
    | false => exact ⟨G, δ1, H1, R1, h1⟩⟩) fun k s1 ⟨H1, I1, q1⟩ => ?_)
  cases k with
  | true => exact ha.run pins s1 σ H1 Q I1 q1
  | false => exact hb.run pins s1 σ H1 Q I1 q1
/-- a value that is also a test -/
theorem both {x : Expr} {f : Den} (h : PE X x (tM X.K W f)) (p : plainT x = true) : PE X x (tM X.K W f) ∧ PT X x (tT X.K W f) := ⟨h, mt_val h (isTrue_of p _)⟩
theorem op_isM : OpR X (compareOp .Is) (rM X.K (isD false)) := OpR_imp (OpR_or op_isBl op_isN) fun x y H Q ⟨H0, d, e, z, s, rx, ry, hz, q⟩ => by
  unfold isD at hz
  split at hz
  · cases hz; cases rx; cases ry; exact .inl ⟨_, _, rfl, rfl, q _ H0 H (Gr.refl s) (.bl _)⟩
  · cases hz; cases rx; cases ry; exact .inr ⟨rfl, q _ H0 H (Gr.refl s) (.bl _)⟩
  · rename_i n
    cases hz; cases ry
    have e : decide (x = V.non) = false := decide_eq_false fun e => by subst e; cases rx; exact n rfl
    exact .inr ⟨rfl, by rw [e]; exact q _ H0 H (Gr.refl s) (.bl _)⟩
  · cases hz
theorem op_isnotM : OpR X (compareOp .IsNot) (rM X.K (isD true)) := OpR_imp (OpR_or op_notBl op_notN) fun x y H Q ⟨H0, d, e, z, s, rx, ry, hz, q⟩ => by
  unfold isD at hz
  split at hz
  · cases hz; cases rx; cases ry; exact .inl ⟨_, _, rfl, rfl, q _ H0 H (Gr.refl s) (.bl _)⟩
  · cases hz; cases rx; cases ry; exact .inr ⟨rfl, q _ H0 H (Gr.refl s) (.bl _)⟩
  · rename_i n
    cases hz; cases ry
    have e : decide (x = V.non) = false := decide_eq_false fun e => by subst e; cases rx; exact n rfl
    exact .inr ⟨rfl, by rw [e]; exact q _ H0 H (Gr.refl s) (.bl _)⟩
  · cases hz
theorem blkS_ok (O : OkX T S X W) {scope : Scope} {own : List (Str × Nat)} (h : blkS S scope own = true) : BlkOk X.N X.env.scope scope own ∧ scope.kind = .function := by
  unfold blkS at h
  simp only [Bool.and_eq_true] at h
  have hb : blkC X.N X.env.scope scope own = true := by
    unfold blkC
    simp only [Bool.and_eq_true]
    rw [O.N, O.names]
    exact h
  exact ⟨blkOk_by hb, (blkOk_by hb).kind⟩
theorem tgN_ok {ok : Nat → Str → Bool} {is : List Nat} {xs : List Expr} (h : tgN ok is xs = true) (hn : ∀ i x p, ok i x = true → PG X (.Name x p) (gName i)) :
    PGs X xs (gNames is) ∧ (assignEach xs X.env).length = is.length ∧ (assignEach xs X.env).findIdx? (·.1) = none := by
  induction is generalizing xs with
  | nil =>
    cases xs with
    | nil => exact ⟨pgs_nil, rfl, rfl⟩
    | cons x xs => cases h
  | cons i is ih =>
    cases xs with
    | nil => cases h
    | cons x xs =>
      cases x with
      | Name n p =>
        have h : (ok i n && tgN ok is xs) = true := h
        rw [Bool.and_eq_true] at h
        obtain ⟨a, b, c⟩ := ih h.2
        refine ⟨pgs_cons (hn i n p h.1) a, ?_, ?_⟩
        · show (assignEach xs X.env).length + 1 = is.length + 1
          rw [b]
        · show List.findIdx? (·.1) ((false, assign (.Name n p) X.env) :: assignEach xs X.env) = none
          rw [List.findIdx?_cons]
          simp only [Bool.false_eq_true, if_false]
          rw [c]
          rfl
      | _ => cases h
theorem tgNs_ok {ok : Nat → Str → Bool} {iss : List (List Nat)} {xs : List Expr} (hc : X.calm = true) (h : tgNs ok iss xs = true) (hn : ∀ i x p, ok i x = true → PG X (.Name x p) (gName i)) :
    PGs X xs (gNsts X.K iss) ∧ (assignEach xs X.env).length = iss.length ∧ (assignEach xs X.env).findIdx? (·.1) = none := by
  induction iss generalizing xs with
  | nil =>
    cases xs with
    | nil => exact ⟨pgs_nil, rfl, rfl⟩
    | cons x xs => cases h
  | cons is iss ih =>
    cases xs with
    | nil => cases h
    | cons x xs =>
      cases x with
      | Tuple ys k p =>
        have h : (tgN ok is ys && tgNs ok iss xs) = true := h
        rw [Bool.and_eq_true] at h
        obtain ⟨a, b, c⟩ := ih h.2
        obtain ⟨a1, b1, c1⟩ := tgN_ok (X := X) (xs := ys) (is := is) h.1 hn
        refine ⟨pgs_cons (mg_tup hc a1 b1 c1) a, ?_, ?_⟩
        · show (assignEach xs X.env).length + 1 = iss.length + 1
          rw [b]
        · show List.findIdx? (·.1) ((false, assign (.Tuple ys k p) X.env) :: assignEach xs X.env) = none
          rw [List.findIdx?_cons]
          simp only [Bool.false_eq_true, if_false]
          rw [c]
          rfl
      | _ => cases h
theorem Tg.ok {ok : Nat → Str → Bool} {tg : Tg} {x : Expr} (hc : X.calm = true ∨ tg.isVar = true) (h : tg.ck ok x = true) (hn : ∀ i x p, ok i x = true → PG X (.Name x p) (gName i)) : PG X x (gM X.K tg.st tg.slots) := by
  cases tg with
  | var i =>
    cases x with
    | Name n p => exact mg_name (hn i n p h)
    | _ => cases h
  | tup is =>
    cases x with
    | Tuple xs k p =>
      obtain ⟨a, b, c⟩ := tgN_ok (X := X) (xs := xs) (is := is) h hn
      rcases hc with hc | hc
      · exact mg_tup hc a b c
      · cases hc
    | _ => cases h
  | nst iss =>
    cases x with
    | Tuple xs k p =>
      rcases hc with hc | hc
      · obtain ⟨a, b, c⟩ := tgNs_ok (X := X) (xs := xs) (iss := iss) hc h hn
        exact mg_nst hc a b c
      · cases hc
    | _ => cases h
end
theorem FnOk.plain {prog : Program} {w : World} {K : PySem.W.Frag} {mg : Str → Option Value} {base : Heap} {CX : CXT} {k : Nat} {f : Addr} {fd : FuncData} {ps : List Str} {ct : Nat → Addr} {q : Fd} (F : FnOk prog w K mg base CX k f fd ps (spF K ct q)) (h : q.pin.isNone = true) :
    FnOk prog w K mg base CX k f fd ps (spD K ct q.ar q.sem) := by
  unfold spF at F
  cases e : q.pin with
  | none => rw [e] at F; exact F
  | some j => rw [e] at h; cases h
theorem FnOk.taken {prog : Program} {w : World} {K : PySem.W.Frag} {mg : Str → Option Value} {base : Heap} {CX : CXT} {k : Nat} {f : Addr} {fd : FuncData} {ps : List Str} {ct : Nat → Addr} {q : Fd} (F : FnOk prog w K mg base CX k f fd ps (spF K ct q)) (h : q.pin.isSome = true) :
    FnOk prog w K mg base CX k f fd ps (spP K q.ar (q.pin.getD 0) q.sem) := by
  unfold spF at F
  cases e : q.pin with
  | none => rw [e] at h; cases h
  | some j => rw [e] at F; exact F
inductive NoStar : List Expr → Prop
  | nil : NoStar []
  | cons {x : Expr} {xs : List Expr} : notStar x = true → NoStar xs → NoStar (x :: xs)
theorem NoStar.plain {X : Cx} {pos : Pos} : ∀ {xs : List Expr}, NoStar xs → (backTo pos (starEach xs X.env)).any (·.1) = false
  | _, .nil => rfl
  | _, .cons (xs := xs) n r => by
    rw [starEach_of n]
    show (false || (backTo pos (starEach xs X.env)).any (·.1)) = false
    rw [r.plain]
    rfl
theorem NoStar.ns {X : Cx} {pos : Pos} {x : Expr} {xs : List Expr} (h : NoStar (x :: xs)) : notStar x = true ∧ (backTo pos (starEach xs X.env)).any (·.1) = false := by
  cases h with
  | cons n r => exact ⟨n, r.plain⟩
theorem Ps.shut_ok {T : Tab} : ∀ {ps : Ps}, Ps.opn.shut ps = true → ∀ (j : Nat), (ps.den T)[j]? ≠ some none
  | .nil, _, j => by unfold Ps.den; simp
  | .own _, h, _ => by cases h
  | .cons e ps, h, 0 => by unfold Ps.den; simp
  | .cons e ps, h, j + 1 => by unfold Ps.den; simpa using Ps.shut_ok (T := T) (ps := ps) h j
theorem Ps.opens {T : Tab} : ∀ {ps : Ps} {q : Nat}, ps.opn q = true → Z.opens q (ps.den T)
  | .nil, _, h => by cases h
  | .own ps, 0, h => by
    refine ⟨by unfold Ps.den; rfl, fun j hj => ?_⟩
    cases j with
    | zero => exact absurd rfl hj
    | succ j => unfold Ps.den; simpa using Ps.shut_ok (T := T) h j
  | .own _, q + 1, h => by cases h
  | .cons _ _, 0, h => by cases h
  | .cons e ps, q + 1, h => by
    obtain ⟨a, b⟩ := Ps.opens (T := T) (ps := ps) (q := q) h
    refine ⟨by unfold Ps.den; simpa using a, fun j hj => ?_⟩
    cases j with
    | zero => unfold Ps.den; simp
    | succ j => unfold Ps.den; simpa using b j (by omega)
theorem of_and {a b : Bool} (h : (a && b) = true) : a = true ∧ b = true := by
  rw [Bool.and_eq_true] at h; exact h
theorem wi_of {T : Tab} {S : SC} {X : Cx} {W : Wi} {tg x : Expr} : ∀ {it : I} (_ : PI X tg x (tI X.K W (it.den T))) (_ : OkX T S X W) (_ : it.ck T S x = true), PI X tg x (wiI X.K W it.ow (it.den T))
  | .own i, h, O, hk => by
    cases x with
    | Name n p => exact PI_or h (pi_own (O.at hk))
    | _ => cases hk
  | .seq _, h, _, _ => h
  | .rng1 _, h, _, _ => h
  | .rng2 _ _, h, _, _ => h
  | .zip _ _, h, _, _ => h
  | .enum _, h, _, _ => h
  | .rng3 _ _ _, h, _, _ => h
theorem compOk_of {T : Tab} {elt : E} {vs : List Nat} {tg : Tg} {it : I} {t : Op} (hel : ∀ {S : SC} {X : Cx} {W : Wi} (_ : OkX T S X W) (x : Expr), elt.ck T S x = true → PE X x (tM X.K W (elt.den T)))
    (hit : ∀ {S : SC} {X : Cx} {W : Wi} (_ : OkX T S X W) (tg x : Expr), it.ck T S x = true → it.tgk tg = true → PI X tg x (tI X.K W (it.den T))) (ht : ∀ {S : SC} {X : Cx} {W : Wi} (_ : OkX T S X W) (x : Option Expr), t.ck T S x = true → PTs X x.toList (tO X.K W (t.den T)))
    {S : SC} {X : Cx} {W : Wi} (O : OkX T S X W) (x : Expr) (h : (F.comp elt vs tg it t).ck T S x = true) :
    ∃ y z ifs scope p x1, x = .ListComp x1 [⟨y, z, ifs, 0⟩] scope p ∧ CompOk X W x1 y z ifs scope (ownOf S vs) (it.den T) tg.st tg.slots (t.den T) (elt.den T) ∧ PI X y z (wiI X.K W it.ow (it.den T)) := by
    cases x with
    | ListComp x1 gs scope p =>
      match gs, h with
      | [⟨y, z, ifs, 0⟩], h =>
        have h : (it.md S.mode && (S.mode == 0 || tg.isVar) && it.ck T S z && notSet z && blkS S scope (ownOf S vs) && tg.slots.all (fun j => decide (j ∈ vs)) && it.tgk y &&
          tg.ck (fun i n => decide (S.N[i]? = some n) && (decide ((S.inner scope).names.lookup n = some .local) || (decide ((S.inner scope).names.lookup n = some .cell) && decide (scope.names.lookup n = some .cell)))) y && elt.ck T (S.inner scope) x1 && decide (ifs.length ≤ 1) && t.ck T (S.inner scope) ifs.head?) = true := h
        obtain ⟨h1, h7⟩ := of_and h
        obtain ⟨h1, h8⟩ := of_and h1
        obtain ⟨h1, h6⟩ := of_and h1
        obtain ⟨h1, h5⟩ := of_and h1
        obtain ⟨h1, h9⟩ := of_and h1
        obtain ⟨h1, h4⟩ := of_and h1
        obtain ⟨h1, h3⟩ := of_and h1
        obtain ⟨h1, h2⟩ := of_and h1
        obtain ⟨h0, h1⟩ := of_and h1
        obtain ⟨_, h0⟩ := of_and h0
        have hv : X.calm = true ∨ tg.isVar = true := by
          rw [Bool.or_eq_true] at h0
          rcases h0 with h0 | h0
          · exact .inl (O.calm (by simpa using h0))
          · exact .inr h0
        obtain ⟨B, hk⟩ := blkS_ok O h3
        have e : (ownOf S vs).map (·.2) = vs := by
          unfold ownOf
          rw [List.map_map]
          exact List.map_id' _
        refine ⟨y, z, ifs, scope, p, x1, rfl, ⟨fun j hj => ?_, hit O y z h1 h9, B, fun s H C cl fp => ?_, fun s H C cl fp => ?_, fun s H C cl fp => hel (O.blk hk s H C cl fp) x1 h6, folded_of h2 _⟩, wi_of (hit O y z h1 h9) O h1⟩
        · rw [e]
          exact of_decide_eq_true (List.all_eq_true.mp h4 j hj)
        · refine Tg.ok (X := X.blk s H scope (compEnvC scope cl C X.env) fp) hv h5 fun i n p hn => ?_
          obtain ⟨n1, n2⟩ := of_and hn
          have Ob := O.blk hk s H C cl fp
          rw [Bool.or_eq_true, Bool.and_eq_true] at n2
          rcases n2 with n2 | ⟨n2, n3⟩
          · have hl : (compEnvC scope cl C X.env).scope.names.lookup n = some .local := by rw [Ob.names]; exact of_decide_eq_true n2
            exact pg_name O.nd (by rw [O.N]; exact of_decide_eq_true n1) (.inl hl) (.inr hl)
          · have hl : (compEnvC scope cl C X.env).scope.names.lookup n = some .cell := by rw [Ob.names]; exact of_decide_eq_true n2
            refine pg_name O.nd (by rw [O.N]; exact of_decide_eq_true n1) (.inr hl) (.inl ?_)
            show (scope.names.lookup n == some .cell) = true
            rw [of_decide_eq_true n3]
            rfl
        · have el : ifs.head?.toList = ifs := by
            have := of_decide_eq_true h8
            match ifs, this with
            | [], _ => rfl
            | [c], _ => rfl
            | _ :: _ :: _, z => simp at z
          have m := ht (O.blk hk s H C cl fp) ifs.head? h7
          rw [el] at m
          exact m
    | _ => cases h
theorem md_hot {it : I} {m : Nat} (h : it.md m = true) (h0 : ¬ m = 0) : ∃ a, it = .rng1 a ∧ m = 1 := by
  match m, it, h with
  | 0, _, _ => exact absurd rfl h0
  | 1, .rng1 a, _ => exact ⟨a, rfl, rfl⟩
theorem rng_hot {T : Tab} {S : SC} {X : Cx} {W : Wi} {a : E} {x : Expr} (hel : ∀ {S : SC} {X : Cx} {W : Wi} (_ : OkX T S X W) (x : Expr), a.ck T S x = true → PE X x (tM X.K W (a.den T))) (O : OkX T S X W) (h : (I.rng1 a).ck T S x = true) :
    ∃ (p1 : Pos) (y : Expr) (p2 : Pos), x = .Call (.Name "range" p1) [y] [] p2 ∧ Gl X "range" ∧ X.mg "range" = none ∧ PA X [y] (tA X.K W (dArgs [a.den T])) ∧ starEach [y] X.env = [(false, eval y X.env)] := by
  cases x with
  | Call fn ys kws p =>
    match fn, ys, kws, h with
    | .Name n p1, [y], [], h =>
      have h : (decide (n = "range") && T.gb S n && a.ck T S y && notStar y) = true := h
      obtain ⟨h1, h4⟩ := of_and h
      obtain ⟨h1, h3⟩ := of_and h1
      obtain ⟨h1, h2⟩ := of_and h1
      have e : n = "range" := of_decide_eq_true h1
      subst e
      obtain ⟨g1, g2, _⟩ := O.gb h2
      have s := starEach_of h4 [] X.env
      exact ⟨p1, y, p, rfl, g1, g2, ma_cons (hel O y h3) ma_nil s, s⟩
  | _ => cases h
theorem un_isE {T : Tab} {X : Cx} {W : Wi} {S : SC} (O : OkX T S X W) {d : Nat} (hd : d ∈ T.qs) {p p2 pos : Pos} {e : Expr} {f : Den} (ha : PE X e (tM X.K W f)) (hg : Gl X "isinstance") (hm : X.mg "isinstance" = none) (hz : (d = 15 ∧ Gl X (exNm d) ∧ X.mg (exNm d) = none) ∨ (d ≠ 15 ∧ Gl X (exNm d)))
    (he : starEach (e :: [.Name (exNm d) p2]) X.env = (false, eval e X.env) :: starEach [.Name (exNm d) p2] X.env) : PE X (.Call (.Name "isinstance" p) [e, .Name (exNm d) p2] [] pos) (tM X.K W (dUn (isED T.rs d) f)) := by
  have hT : ∃ c, ClsV c (clsV X.K d) ∧ PE X (.Name (exNm d) p2) (tC c) := by
    unfold clsV
    rcases hz with ⟨rfl, g1, g2⟩ | ⟨hn, g1⟩
    · exact ⟨.ty "ValueError", .ty _, pe_bltn g1 g2 (by decide +kernel) rfl (by decide +kernel) (by decide +kernel)⟩
    · obtain ⟨k1, k2⟩ := O.ask d hd hn
      rw [if_neg hn]
      exact ⟨.ref (ctOf X.K d), .own _, pe_glob g1 k1 rfl k2⟩
  obtain ⟨c, hc, hT⟩ := hT
  refine PE_imp (pe_callB call_isX hg hm boot_isinstance (pa_cons ha (pa_cons hT pa_nil rfl) he) (by decide +kernel) (by decide +kernel) he rfl) fun σ H Q ⟨G, δ, H0, R, h⟩ => ⟨G, δ, H0, R, PoE.bind h fun v δ1 u H01 H1 R1 s1 r1 h1 => ?_⟩
  obtain ⟨z, hz, h3⟩ := ofO_some h1
  unfold isED at hz
  split at hz
  · rename_i k
    split at hz
    · rename_i hr
      cases hz
      have kx := O.exc k (by simpa using hr)
      cases r1 with
      | exc ha x =>
        obtain ⟨x1, x2, vs, x3, _⟩ := x
        exact ⟨_, _, _, c, _, _, rfl, R1.hs _ _ ha, x1, x2, ⟨vs, x3⟩, kx.ec, hc, kx.it d hd, h3.val R1 (.bl _)⟩
    · cases hz
  · cases hz
theorem me_call0 {X : Cx} {W : Wi} {k : Nat} {f : Addr} {fd : FuncData} {ps : List Str} {ct : Nat → Addr} {x : Str} {p pos : Pos} {g : List D → RD} (F : FnOk X.prog X.w X.K X.mg X.base (L2N.CX X.prog X.w) k f fd ps (spD X.K ct 0 g)) (hr : Room k X.A) (hg : Gl X x) (hm : X.mg x = some (.ref f)) (hk : PySem.W.keepIn X.K (.ref f) = true) (hb : Binds X.K fd ps [])
    (tk : L2N.Takes X W.w) (hct : W.ct = ct) (hdb : (x == ("__debug__" : Str)) = false) : PE X (.Call (.Name x p) [] [] pos) (tM X.K W (dCall g [])) := by
  have ha : PA X [] tNil := pa_nil
  refine ⟨fun pins s σ H Q I h => wpAny_Call_Name_kw (ld_glob I hg hm ?_ hdb)⟩
  obtain ⟨G, δ, H0, R, q⟩ := h
  have q : PoE X.K W G σ H0 (ofD (g []) δ) Q := q
  have sp : spD X.K ct 0 g [] H Q (WE W.w σ) := by
    refine ⟨H0, [], R.hs, .nil, rfl, ?_⟩
    cases hg : g [] with
    | ok d => rw [hg] at q; exact fun v H2 H'' gr r => q v H2 H'' (R.grow gr) gr.h0 r
    | ow o =>
      rw [hg] at q
      exact fun a H2 H'' gr n n0 ow => read_in q (R.grow gr) gr.h0 n0 (R.he_none n) ow (R.own_ne n)
    | okp d o => rw [hg] at q; exact q.elim
    | owp d o => rw [hg] at q; exact q.elim
    | rz c => rw [hg] at q; exact fun cls dd H2 H'' gr x => q cls dd H2 H'' (R.grow gr) gr.h0 (by rw [hct]; exact x)
    | bad => rw [hg] at q; exact q.elim
  exact PySem.W.callWith_K0 I.kIn hk (run_fnS (us := []) (E := fun σ => WE W.w σ) F hr hb (L2N.passAt tk σ) I .nil sp)
theorem last_of {c : Expr} (h : notSet c = true) (op op' : CmpOp) (b : Expr) : lastMarks [op, op'] [b, c] = false := by
  show behindInMarks op' c = false
  cases c <;> first | rfl | cases h
theorem FnOk.taken1 {prog : Program} {w : World} {K : PySem.W.Frag} {mg : Str → Option Value} {base : Heap} {CX : CXT} {k : Nat} {f : Addr} {fd : FuncData} {ps : List Str} {ct : Nat → Addr} {q : Fd} (F : FnOk prog w K mg base CX k f fd ps (spF K ct q)) (h : q.pin = some 0) (h1 : q.ar = 1) :
    FnOk prog w K mg base CX k f fd ps (spP K 1 0 q.sem) := by
  unfold spF at F
  rw [h, h1] at F
  exact F
theorem keys_some : ∀ {ks : List (Option Expr)}, ks.all (·.isSome) = true → ks = (ks.filterMap id).map some
  | [], _ => rfl
  | none :: _, h => by simp at h
  | some x :: ks, h => by
    have h : ks.all (·.isSome) = true := by simpa using h
    have e := keys_some h
    show some x :: ks = some x :: ((ks.filterMap id).map some)
    rw [← e]
theorem AllG.pairs {X : Cx} {W : Wi} {pos : Pos} : ∀ {xs : List Expr} {fs : List Den}, AllG X W xs fs → ∀ {ys : List Expr} {gs : List Den}, AllG X W ys gs → xs.length = ys.length → PPs X pos (xs.map some) ys ((fs.zip gs).map fun f => (tM X.K W f.1, tM X.K W f.2))
  | _, _, .nil, _, _, .nil, _ => pps_nil
  | _, _, .cons h _ _ r, _, _, .cons h2 _ _ r2, l => pps_cons h h2 (AllG.pairs r r2 (by simpa using l))
  | _, _, .nil, _, _, .cons _ _ _ _, l => by simp at l
  | _, _, .cons _ _ _ _, _, _, .nil, l => by simp at l
set_option maxHeartbeats 4000000
mutual
theorem E.ok {T : Tab} : ∀ (e : E) {S : SC} {X : Cx} {W : Wi} (_ : OkX T S X W) (x : Expr), e.ck T S x = true → PE X x (tM X.K W (e.den T)) ∧ PT X x (tT X.K W (e.den T))
  | .var i, S, X, W, O, x, h => by
    cases x with
    | Name n p => exact both (me_var (O.at h)) rfl
    | _ => cases h
  | .int i, S, X, W, O, x, h => by
    cases x with
    | Constant c k p =>
      cases c with
      | int j =>
        have e : i = j := of_decide_eq_true h
        subst e
        exact both (me_cst pe_int fun _ => .int _) rfl
      | _ => cases h
    | _ => cases h
  | .str i, S, X, W, O, x, h => by
    cases x with
    | Constant c k p =>
      cases c with
      | str j =>
        have e : i = j := of_decide_eq_true h
        subst e
        exact both (me_cst pe_str fun _ => .str _) rfl
      | _ => cases h
    | _ => cases h
  | .bl i, S, X, W, O, x, h => by
    cases x with
    | Constant c k p =>
      cases c with
      | bool j =>
        have e : i = j := of_decide_eq_true h
        subst e
        exact both (me_cst pe_bl fun _ => .bl _) rfl
      | _ => cases h
    | _ => cases h
  | .non, S, X, W, O, x, h => by
    cases x with
    | Constant c k p =>
      cases c with
      | none => exact both (me_cst pe_non fun _ => .non) rfl
      | _ => cases h
    | _ => cases h
  | .glo k, S, X, W, O, x, h => by
    cases x with
    | Name n p =>
      have h : (S.gl n && !(n == ("__debug__" : Str)) && (match T.cons[k]? with
        | some p => decide (p.1 = n)
        | none => false)) = true := h
      obtain ⟨h1, h3⟩ := of_and h
      obtain ⟨h1, h2⟩ := of_and h1
      unfold E.den
      cases e : T.cons[k]? with
      | none => rw [e] at h3; cases h3
      | some q =>
        rw [e] at h3
        have e2 : q.1 = n := of_decide_eq_true h3
        subst e2
        obtain ⟨u, v, a, b, c⟩ := O.glo k q e
        exact both (me_cst (pe_glob (O.gl h1) a b (by rw [Bool.not_eq_true'] at h2; exact h2)) c) rfl
    | _ => cases h
  | .bin o a b, S, X, W, O, x, h => by
    cases x with
    | BinOp y op z p =>
      have h : (decide (op = o.op) && a.ck T S y && b.ck T S z) = true := h
      obtain ⟨h1, h3⟩ := of_and h
      obtain ⟨h1, h2⟩ := of_and h1
      have e : op = o.op := of_decide_eq_true h1
      subst e
      exact both (me_bin (opB o) (a.ok O y h2).1 (b.ok O z h3).1) rfl
    | _ => cases h
  | .neg a, S, X, W, O, x, h => by
    cases x with
    | UnaryOp op y p =>
      cases op with
      | USub => exact both (me_un un_negM (a.ok O y h).1) rfl
      | _ => cases h
    | _ => cases h
  | .not a, S, X, W, O, x, h => by
    cases x with
    | UnaryOp op y p =>
      cases op with
      | Not => exact ⟨me_not (a.ok O y h).1, mt_not (a.ok O y h).2⟩
      | _ => cases h
    | _ => cases h
  | .cmp o a b, S, X, W, O, x, h => by
    cases x with
    | Compare y ops zs p =>
      match ops, zs, h with
      | [op], [z], h =>
        have h : (decide (op = o.op) && a.ck T S y && b.ck T S z && notSet z) = true := h
        obtain ⟨h1, h4⟩ := of_and h
        obtain ⟨h1, h3⟩ := of_and h1
        obtain ⟨h1, h2⟩ := of_and h1
        have e : op = o.op := of_decide_eq_true h1
        subst e
        exact ⟨me_cmp (opC o O.hu) (a.ok O y h2).1 (b.ok O z h3).1 (behind_of h4 _), mt_cmp (opC o O.hu) (a.ok O y h2).1 (b.ok O z h3).1 (behind_of h4 _)⟩
    | _ => cases h
  | .isc n a b, S, X, W, O, x, h => by
    cases x with
    | Compare y ops zs p =>
      match ops, zs, h with
      | [op], [z], h =>
        have h : (decide (op = if n then .IsNot else .Is) && a.ck T S y && b.ck T S z && notSet z) = true := h
        obtain ⟨h1, h4⟩ := of_and h
        obtain ⟨h1, h3⟩ := of_and h1
        obtain ⟨h1, h2⟩ := of_and h1
        have e : op = if n then .IsNot else .Is := of_decide_eq_true h1
        subst e
        have ho : OpR X (compareOp (if n then .IsNot else .Is)) (rM X.K (isD n)) := by
          cases n with
          | true => exact op_isnotM
          | false => exact op_isM
        exact ⟨me_cmp ho (a.ok O y h2).1 (b.ok O z h3).1 (behind_of h4 _), mt_cmp ho (a.ok O y h2).1 (b.ok O z h3).1 (behind_of h4 _)⟩
    | _ => cases h
  | .and es, S, X, W, O, x, h => by
    cases x with
    | BoolOp op xs p =>
      cases op with
      | And =>
        have h : (es.ck T S xs && !xs.isEmpty) = true := h
        obtain ⟨h1, h2⟩ := of_and h
        obtain ⟨a, b⟩ := (es.ok O xs h1).and_ (pos := p) (fun z => by subst z; cases h2)
        exact ⟨a, b.pt⟩
      | _ => cases h
    | _ => cases h
  | .or es, S, X, W, O, x, h => by
    cases x with
    | BoolOp op xs p =>
      cases op with
      | Or =>
        have h : (es.ck T S xs && !xs.isEmpty) = true := h
        obtain ⟨h1, h2⟩ := of_and h
        obtain ⟨a, b⟩ := (es.ok O xs h1).or_ (pos := p) (fun z => by subst z; cases h2)
        exact ⟨a, b.pt⟩
      | _ => cases h
    | _ => cases h
  | .ite c a b, S, X, W, O, x, h => by
    cases x with
    | IfExp u y z p =>
      have h : (c.ck T S u && a.ck T S y && b.ck T S z) = true := h
      obtain ⟨h1, h3⟩ := of_and h
      obtain ⟨h1, h2⟩ := of_and h1
      exact ⟨me_ite (c.ok O u h1).2 (a.ok O y h2).1 (b.ok O z h3).1, mt_ite (c.ok O u h1).2 (a.ok O y h2).2 (b.ok O z h3).2⟩
    | _ => cases h
  | .tup es, S, X, W, O, x, h => by
    cases x with
    | Tuple xs k p => exact both (me_tup (es.ok O xs h).args) rfl
    | _ => cases h
  | .fr f, S, X, W, O, x, h => by
    obtain ⟨m, p⟩ := f.ok O x h
    exact both (me_fr m) p
  | .bi b es, S, X, W, O, x, h => by
    cases x with
    | Call fn ys kws p =>
      match fn, ys, kws, h with
      | .Name n p1, y :: ys, [], h =>
        have h : (S.mode == 0 && decide (n = b.name) && T.gb S n && es.ck T S (y :: ys)) = true := h
        obtain ⟨h1, h3⟩ := of_and h
        obtain ⟨h1, h2⟩ := of_and h1
        obtain ⟨h0, h1⟩ := of_and h1
        have h0 : S.mode = 0 := by simpa using h0
        obtain ⟨g1, g2, g3⟩ := O.gb h2
        have A := es.ok O (y :: ys) h3
        obtain ⟨n, r⟩ := A.ns (pos := p)
        exact both (me_Bi b (O.calm h0) (of_decide_eq_true h1) g1 g2 A.args (starEach_of n _ _) r) rfl
    | _ => cases h
  | .isi2 t1 t2 a, S, X, W, O, x, h => by
    cases x with
    | Call fn ys kws p =>
      match fn, ys, kws, h with
      | .Name n p1, [y, .Tuple [.Name z1 p2, .Name z2 p3] k p4], [], h =>
        have h : (decide (n = "isinstance") && T.gb S n && decide (z1 = t1.n) && T.gb S z1 && decide (z2 = t2.n) && T.gb S z2 && a.ck T S y && notStar y) = true := h
        obtain ⟨h1, h8⟩ := of_and h
        obtain ⟨h1, h7⟩ := of_and h1
        obtain ⟨h1, h6⟩ := of_and h1
        obtain ⟨h1, h5⟩ := of_and h1
        obtain ⟨h1, h4⟩ := of_and h1
        obtain ⟨h1, h3⟩ := of_and h1
        obtain ⟨h1, h2⟩ := of_and h1
        have e : n = "isinstance" := of_decide_eq_true h1
        have e1 : z1 = t1.n := of_decide_eq_true h3
        have e2 : z2 = t2.n := of_decide_eq_true h5
        subst e e1 e2
        obtain ⟨g1, g2, _⟩ := O.gb h2
        obtain ⟨k1, k2, _⟩ := O.gb h4
        obtain ⟨l1, l2, _⟩ := O.gb h6
        exact both (me_isi2 (a.ok O y h7).1 g1 g2 k1 k2 t1.boot t1.nn t1.nd l1 l2 t2.boot t2.nn t2.nd (starEach_of h8 _ _)) rfl
    | _ => cases h
  | .isi ty a, S, X, W, O, x, h => by
    cases x with
    | Call fn ys kws p =>
      match fn, ys, kws, h with
      | .Name n p1, [y, .Name z p2], [], h =>
        have h : (decide (n = "isinstance") && T.gb S n && decide (z = ty.n) && T.gb S z && a.ck T S y && notStar y) = true := h
        obtain ⟨h1, h6⟩ := of_and h
        obtain ⟨h1, h5⟩ := of_and h1
        obtain ⟨h1, h4⟩ := of_and h1
        obtain ⟨h1, h3⟩ := of_and h1
        obtain ⟨h1, h2⟩ := of_and h1
        have e : n = "isinstance" := of_decide_eq_true h1
        have e2 : z = ty.n := of_decide_eq_true h3
        subst e
        subst e2
        obtain ⟨g1, g2, _⟩ := O.gb h2
        obtain ⟨k1, k2, _⟩ := O.gb h4
        exact both (me_isi (a.ok O y h5).1 g1 g2 k1 k2 ty.boot ty.nn ty.nd (starEach_of h6 _ _)) rfl
    | _ => cases h
  | .call k es, S, X, W, O, x, h => by
    cases x with
    | Call fn ys kws p =>
      match fn, ys, kws, h with
      | .Name n p1, y :: ys, [], h =>
        have h : (S.mode == 0 && S.gl n && !(n == ("__debug__" : Str)) && (match T.fns[k]? with
          | some p => decide (p.name = n) && decide (p.ar = (y :: ys).length) && p.pin.isNone
          | none => false) && es.ck T S (y :: ys)) = true := h
        obtain ⟨h1, h5⟩ := of_and h
        obtain ⟨h1, h4⟩ := of_and h1
        obtain ⟨h1, h2⟩ := of_and h1
        obtain ⟨h0, h1⟩ := of_and h1
        have h0 : S.mode = 0 := by simpa using h0
        unfold E.den
        cases e : T.fns[k]? with
        | none => rw [e] at h4; cases h4
        | some q =>
          rw [e] at h4
          obtain ⟨h4, h8⟩ := of_and h4
          obtain ⟨h6, h7⟩ := of_and h4
          have e6 : q.name = n := of_decide_eq_true h6
          have e7 : q.ar = (y :: ys).length := of_decide_eq_true h7
          subst e6
          obtain ⟨lv, f, fd, ps, F, hr, hm, hk, hb⟩ := O.call h0 k q e
          have A := es.ok O (y :: ys) h5
          obtain ⟨n, r⟩ := A.ns (pos := p)
          have F := Z.FnOk.plain F h8
          exact both (me_call F hr (O.gl h1) hm hk hb (L2N.passAt O.tk) (by rw [Bool.not_eq_true'] at h2; exact h2) A.args (by rw [e7, A.len]) rfl (starEach_of n _ _) r) rfl
    | _ => cases h
  | .callP k i es, S, X, W, O, x, h => by
    cases x with
    | Call fn ys kws p =>
      match fn, ys, kws, h with
      | .Name n p1, y :: ys, [], h =>
        have h : (S.mode == 0 && S.gl n && !(n == ("__debug__" : Str)) && (match T.fns[k]? with
          | some p => decide (p.name = n) && decide (p.ar = (y :: ys).length) && p.pin.isSome && es.opn (p.pin.getD 0)
          | none => false) && es.ck T S i (y :: ys)) = true := h
        obtain ⟨h1, h5⟩ := of_and h
        obtain ⟨h1, h4⟩ := of_and h1
        obtain ⟨h1, h2⟩ := of_and h1
        obtain ⟨h0, h1⟩ := of_and h1
        have h0 : S.mode = 0 := by simpa using h0
        unfold E.den
        cases e : T.fns[k]? with
        | none => rw [e] at h4; cases h4
        | some q =>
          rw [e] at h4
          obtain ⟨h4, h9⟩ := of_and h4
          obtain ⟨h4, h8⟩ := of_and h4
          obtain ⟨h6, h7⟩ := of_and h4
          have e6 : q.name = n := of_decide_eq_true h6
          have e7 : q.ar = (y :: ys).length := of_decide_eq_true h7
          subst e6
          obtain ⟨lv, f, fd, ps, F, hr, hm, hk, hb⟩ := O.call h0 k q e
          obtain ⟨A, l, st⟩ := es.ok O (y :: ys) h5
          obtain ⟨n1, r⟩ := st.ns (pos := p)
          have F := Z.FnOk.taken F h8
          exact both (me_callP F hr (O.gl h1) hm hk hb (L2N.passAt O.tk) (by rw [Bool.not_eq_true'] at h2; exact h2) A (by rw [e7, l]) (Ps.opens h9) (starEach_of n1 _ _) r) rfl
    | _ => cases h
  | .callB k qq i es, S, X, W, O, x, h => by
    cases x with
    | Call fn ys kws p =>
      match fn, ys, kws, h with
      | .Name n p1, y :: ys, [], h =>
        have h : (S.mode == 0 && S.gl n && !(n == ("__debug__" : Str)) && (match T.fns[k]? with
          | some p => decide (p.name = n) && decide (p.ar = (y :: ys).length) && p.pin.isNone && es.opn qq
          | none => false) && es.ck T S i (y :: ys)) = true := h
        obtain ⟨h1, h5⟩ := of_and h
        obtain ⟨h1, h4⟩ := of_and h1
        obtain ⟨h1, h2⟩ := of_and h1
        obtain ⟨h0, h1⟩ := of_and h1
        have h0 : S.mode = 0 := by simpa using h0
        unfold E.den
        cases e : T.fns[k]? with
        | none => rw [e] at h4; cases h4
        | some q =>
          rw [e] at h4
          obtain ⟨h4, h9⟩ := of_and h4
          obtain ⟨h4, h8⟩ := of_and h4
          obtain ⟨h6, h7⟩ := of_and h4
          have e6 : q.name = n := of_decide_eq_true h6
          have e7 : q.ar = (y :: ys).length := of_decide_eq_true h7
          subst e6
          obtain ⟨lv, f, fd, ps, F, hr, hm, hk, hb⟩ := O.call h0 k q e
          obtain ⟨A, l, st⟩ := es.ok O (y :: ys) h5
          obtain ⟨n1, r⟩ := st.ns (pos := p)
          have F := Z.FnOk.plain F h8
          exact both (me_callB F hr (O.gl h1) hm hk hb (L2N.passAt O.tk) (by rw [Bool.not_eq_true'] at h2; exact h2) A (by rw [e7, l]) rfl (Ps.opens h9) (starEach_of n1 _ _) r) rfl
    | _ => cases h
  | .bad, S, X, W, O, x, h => ⟨me_bad, mt_bad⟩
  | .callN k f, S, X, W, O, x, h => by
    cases x with
    | Call fn ys kws p =>
      match fn, ys, kws, h with
      | .Name n p1, [y], [], h =>
        have h : (S.mode == 0 && S.gl n && !(n == ("__debug__" : Str)) && (match T.fns[k]? with
          | some p => decide (p.name = n) && decide (p.ar = 1) && decide (p.pin = some 0)
          | none => false) && f.ck T S y && notStar y) = true := h
        obtain ⟨h1, h9⟩ := of_and h
        obtain ⟨h1, h5⟩ := of_and h1
        obtain ⟨h1, h4⟩ := of_and h1
        obtain ⟨h1, h2⟩ := of_and h1
        obtain ⟨h0, h1⟩ := of_and h1
        have h0 : S.mode = 0 := by simpa using h0
        unfold E.den
        cases e : T.fns[k]? with
        | none => rw [e] at h4; cases h4
        | some q =>
          rw [e] at h4
          obtain ⟨h4, h8⟩ := of_and h4
          obtain ⟨h6, h7⟩ := of_and h4
          have e6 : q.name = n := of_decide_eq_true h6
          subst e6
          obtain ⟨lv, fa, fd, ps, F, hr, hm, hk, hb⟩ := O.call h0 k q e
          have F := Z.FnOk.taken1 F (of_decide_eq_true h8) (of_decide_eq_true h7)
          exact both (me_callN F hr (O.gl h1) hm hk hb (L2N.passAt O.tk) (by rw [Bool.not_eq_true'] at h2; exact h2) (f.ok O y h5).1 (starEach_of h9 _ _)) rfl
    | _ => cases h
  | .dst a, S, X, W, O, x, h => by
    cases x with
    | Call fn ys kws p =>
      match fn, ys, kws, h with
      | .Name n p1, [.Call (.Name z p2) [y] [] p3], [], h =>
        have h : (S.mode == 0 && decide (n = "len") && T.gb S n && decide (z = "set") && T.gb S z && a.ck T S y && notStar y) = true := h
        obtain ⟨h1, h7⟩ := of_and h
        obtain ⟨h1, h6⟩ := of_and h1
        obtain ⟨h1, h5⟩ := of_and h1
        obtain ⟨h1, h4⟩ := of_and h1
        obtain ⟨h1, h3⟩ := of_and h1
        obtain ⟨h0, h2⟩ := of_and h1
        have h0 : S.mode = 0 := by simpa using h0
        have e : n = "len" := of_decide_eq_true h2
        have e2 : z = "set" := of_decide_eq_true h4
        subst e
        subst e2
        obtain ⟨g1, g2, _⟩ := O.gb h3
        obtain ⟨k1, k2, _⟩ := O.gb h5
        have hu := O.hu
        exact both (me_dst (O.calm h0) (by omega) g1 g2 k1 k2 (a.ok O y h6).1 (starEach_of h7 _ _)) rfl
    | _ => cases h
  | .chn o o' a b c, S, X, W, O, x, h => by
    cases x with
    | Compare y ops zs p =>
      match ops, zs, h with
      | [op, op'], [z, w], h =>
        have h : (decide (op = o.op) && decide (op' = o'.op) && a.ck T S y && b.ck T S z && c.ck T S w && notSet w) = true := h
        obtain ⟨h1, h6⟩ := of_and h
        obtain ⟨h1, h5⟩ := of_and h1
        obtain ⟨h1, h4⟩ := of_and h1
        obtain ⟨h1, h3⟩ := of_and h1
        obtain ⟨h1, h2⟩ := of_and h1
        have e : op = o.op := of_decide_eq_true h1
        have e2 : op' = o'.op := of_decide_eq_true h2
        subst e
        subst e2
        exact me_chn O.hu (a.ok O y h3).1 (b.ok O z h4).1 (c.ok O w h5).1 (last_of h6 _ _ _)
    | _ => cases h
  | .cmpR o a i, S, X, W, O, x, h => by
    cases x with
    | Compare y ops zs p =>
      match ops, zs, h with
      | [op], [.Name n np], h =>
        have h : (decide (op = o.op) && a.ck T S y && S.at i n) = true := h
        obtain ⟨h1, h3⟩ := of_and h
        obtain ⟨h1, h2⟩ := of_and h1
        have e : op = o.op := of_decide_eq_true h1
        subst e
        exact ⟨me_cmpR (opC o O.hu) (a.ok O y h2).1 (O.at h3) (behind_of rfl _), mt_cmpR (opC o O.hu) (a.ok O y h2).1 (O.at h3) (behind_of rfl _)⟩
    | _ => cases h
  | .bitl a, S, X, W, O, x, h => by
    cases x with
    | Call fn ys kws p =>
      match fn, ys, kws, h with
      | .Attribute (.Name n q) m ap, [], [], h =>
        have h : (decide (m = "bit_length") && (ap.endLine == p.line) && a.ck T S (.Name n q)) = true := h
        obtain ⟨h1, h3⟩ := of_and h
        obtain ⟨h1, h2⟩ := of_and h1
        have e : m = "bit_length" := of_decide_eq_true h1
        subst e
        exact both (me_bitl (a.ok O (.Name n q) h3).1 h2) rfl
    | _ => cases h
  | .isE d a, S, X, W, O, x, h => by
    cases x with
    | Call fn ys kws p =>
      match fn, ys, kws, h with
      | .Name n p1, [y, .Name z p2], [], h =>
        have h : (decide (n = "isinstance") && T.gb S n && decide (z = exNm d) && (if d == 15 then T.gb S z else S.gl z) && decide (d ∈ T.qs) && a.ck T S y && notStar y) = true := h
        obtain ⟨h1, h7⟩ := of_and h
        obtain ⟨h1, h6⟩ := of_and h1
        obtain ⟨h1, h5⟩ := of_and h1
        obtain ⟨h1, h4⟩ := of_and h1
        obtain ⟨h1, h3⟩ := of_and h1
        obtain ⟨h1, h2⟩ := of_and h1
        have e : n = "isinstance" := of_decide_eq_true h1
        have e2 : z = exNm d := of_decide_eq_true h3
        subst e
        subst e2
        obtain ⟨g1, g2, _⟩ := O.gb h2
        refine both (un_isE O (of_decide_eq_true h5) (a.ok O y h6).1 g1 g2 ?_ (starEach_of h7 _ _)) rfl
        by_cases hd : d = 15
        · rw [if_pos (by simpa using hd)] at h4
          obtain ⟨k1, k2, _⟩ := O.gb h4
          exact .inl ⟨hd, k1, k2⟩
        · rw [if_neg (by simpa using hd)] at h4
          exact .inr ⟨hd, O.gl h4⟩
    | _ => cases h
  | .call0 k, S, X, W, O, x, h => by
    cases x with
    | Call fn ys kws p =>
      match fn, ys, kws, h with
      | .Name n p1, [], [], h =>
        have h : (S.mode == 0 && S.gl n && !(n == ("__debug__" : Str)) && (match T.fns[k]? with
          | some p => decide (p.name = n) && decide (p.ar = 0) && p.pin.isNone
          | none => false)) = true := h
        obtain ⟨h1, h4⟩ := of_and h
        obtain ⟨h1, h2⟩ := of_and h1
        obtain ⟨h0, h1⟩ := of_and h1
        have h0 : S.mode = 0 := by simpa using h0
        unfold E.den
        cases e : T.fns[k]? with
        | none => rw [e] at h4; cases h4
        | some q =>
          rw [e] at h4
          obtain ⟨h4, h8⟩ := of_and h4
          obtain ⟨h6, h7⟩ := of_and h4
          have e6 : q.name = n := of_decide_eq_true h6
          have e7 : q.ar = 0 := of_decide_eq_true h7
          subst e6
          obtain ⟨lv, f, fd, ps, F, hr, hm, hk, hb⟩ := O.call h0 k q e
          have F := Z.FnOk.plain F h8
          rw [e7] at F
          exact both (me_call0 F hr (O.gl h1) hm hk hb O.tk rfl (by rw [Bool.not_eq_true'] at h2; exact h2)) rfl
    | _ => cases h
  | .dic0, S, X, W, O, x, h => by
    cases x with
    | Dict ks vs p =>
      match ks, vs, h with
      | [], [], h =>
        exact both (PE_imp pe_dnewK fun σ H Q ⟨G, δ, H0, R, q⟩ a ha => PoE.new q R (Gr.new R.hs ha) (.dic (kvs := []) (xs := []) upd_same rfl rfl .nil)) rfl
    | _ => cases h
  | .idx a b, S, X, W, O, x, h => by
    cases x with
    | Subscript y z p =>
      have h : (a.ck T S y && b.ck T S z && notSlice z) = true := h
      obtain ⟨h1, h3⟩ := of_and h
      obtain ⟨h1, h2⟩ := of_and h1
      exact both (me_ix ix_M (a.ok O y h1).1 (b.ok O z h2).1 (plainIx_of h3)) rfl
    | _ => cases h
  | .stp a lo hi st, S, X, W, O, x, h => by
    cases x with
    | Subscript y z p =>
      cases z with
      | Slice l u s p2 =>
        cases s with
        | some s =>
          have h : (a.ck T S y && lo.ck T S l && hi.ck T S u && st.ck T S s) = true := h
          obtain ⟨h1, h4⟩ := of_and h
          obtain ⟨h1, h3⟩ := of_and h1
          obtain ⟨h1, h2⟩ := of_and h1
          exact both (me_stp (a.ok O y h1).1 (lo.ok O l h2).2 (hi.ok O u h3).2 (mp_some (st.ok O s h4).1)) rfl
        | none => cases h
      | _ => cases h
    | _ => cases h
  | .cut a lo hi, S, X, W, O, x, h => by
    cases x with
    | Subscript y z p =>
      cases z with
      | Slice l u st p2 =>
        cases st with
        | none =>
          have h : (a.ck T S y && lo.ck T S l && hi.ck T S u) = true := h
          obtain ⟨h1, h3⟩ := of_and h
          obtain ⟨h1, h2⟩ := of_and h1
          exact both (me_cut (a.ok O y h1).1 (lo.ok O l h2).2 (hi.ok O u h3).2) rfl
        | some _ => cases h
      | _ => cases h
    | _ => cases h
  | .ixO i b, S, X, W, O, x, h => by
    cases x with
    | Subscript y z p =>
      cases y with
      | Name n p1 =>
        have h : (S.at i n && b.ck T S z && notSlice z) = true := h
        obtain ⟨h1, h3⟩ := of_and h
        obtain ⟨h1, h2⟩ := of_and h1
        exact both (me_ixO (O.at h1) (b.ok O z h2).1 (plainIx_of h3)) rfl
      | _ => cases h
    | _ => cases h
  | .cmpB o i b, S, X, W, O, x, h => by
    cases x with
    | Compare y ops zs p =>
      match y, ops, zs, h with
      | .Name n p1, [op], [z], h =>
        have h : (decide (op = o.op) && S.at i n && b.ck T S z && notSet z) = true := h
        obtain ⟨h1, h4⟩ := of_and h
        obtain ⟨h1, h3⟩ := of_and h1
        obtain ⟨h1, h2⟩ := of_and h1
        have e : op = o.op := of_decide_eq_true h1
        subst e
        exact ⟨me_cmpB (opC o O.hu) (O.at h2) (b.ok O z h3).1 (behind_of h4 _), mt_cmpB (opC o O.hu) (O.at h2) (b.ok O z h3).1 (behind_of h4 _)⟩
    | _ => cases h
  | .iscB n i, S, X, W, O, x, h => by
    cases x with
    | Compare y ops zs p =>
      match y, ops, zs, h with
      | .Name nm p1, [op], [.Constant .none kk kp], h =>
        have h : (decide (op = if n then .IsNot else .Is) && S.at i nm) = true := h
        obtain ⟨h1, h2⟩ := of_and h
        have e : op = if n then .IsNot else .Is := of_decide_eq_true h1
        subst e
        have ho : OpR X (compareOp (if n then .IsNot else .Is)) (rM X.K (isD n)) := by
          cases n with
          | true => exact op_isnotM
          | false => exact op_isM
        have hn : PE X (.Constant .none kk kp) (tM X.K W (dCst .non)) := (E.non.ok O (.Constant .none kk kp) rfl).1
        exact ⟨me_cmpB ho (O.at h2) hn (behind_of (x := .Constant .none kk kp) rfl _), mt_cmpB ho (O.at h2) hn (behind_of (x := .Constant .none kk kp) rfl _)⟩
    | _ => cases h
  | .ind i b, S, X, W, O, x, h => by
    cases x with
    | Call fn ys kws p =>
      match fn, ys, kws, h with
      | .Attribute (.Name n np) m ap, [y], [], h =>
        have h : (S.at i n && decide (m = "index") && (ap.endLine == p.line) && b.ck T S y && notStar y) = true := h
        obtain ⟨h, h5⟩ := of_and h
        obtain ⟨h, h4⟩ := of_and h
        obtain ⟨h, h3⟩ := of_and h
        obtain ⟨h1, h2⟩ := of_and h
        have e2 : m = "index" := of_decide_eq_true h2
        subst e2
        have s := starEach_of h5 [] X.env
        exact both (me_ind O.hu (O.at h1) (b.ok O y h4).1 (by rw [s]; rfl) h3 s) rfl
    | _ => cases h
  | .lenO i, S, X, W, O, x, h => by
    cases x with
    | Call fn ys kws p =>
      match fn, ys, kws, h with
      | .Name z p1, [.Name n p2], [], h =>
        have h : (S.mode == 0 && decide (z = "len") && T.gb S z && S.at i n) = true := h
        obtain ⟨h1, h3⟩ := of_and h
        obtain ⟨h1, h2⟩ := of_and h1
        obtain ⟨h0, h1⟩ := of_and h1
        have h0 : S.mode = 0 := by simpa using h0
        have e : z = "len" := of_decide_eq_true h1
        subst e
        obtain ⟨g1, g2, _⟩ := O.gb h2
        exact both (me_lenO (O.calm h0) (O.at h3) g1 g2) rfl
    | _ => cases h
theorem Op.ok {T : Tab} : ∀ (e : Op) {S : SC} {X : Cx} {W : Wi} (_ : OkX T S X W) (x : Option Expr), e.ck T S x = true → PTs X x.toList (tO X.K W (e.den T)) ∧ PO X x (tP X.K W (dPart (e.den T)))
  | .no, S, X, W, O, x, h => by
    cases x with
    | none => exact ⟨pts_nil, mp_none⟩
    | some x => cases h
  | .so e, S, X, W, O, x, h => by
    cases x with
    | none => cases h
    | some x => exact ⟨pts_one (e.ok O x h).2, mp_some (e.ok O x h).1⟩
theorem Es.ok {T : Tab} : ∀ (e : Es) {S : SC} {X : Cx} {W : Wi} (_ : OkX T S X W) (x : List Expr), e.ck T S x = true → AllG X W x (e.den T)
  | .nil, S, X, W, O, x, h => by
    cases x with
    | nil => exact .nil
    | cons _ _ => cases h
  | .cons e es, S, X, W, O, x, h => by
    cases x with
    | nil => cases h
    | cons x xs =>
      have h : (e.ck T S x && notStar x && es.ck T S xs) = true := h
      obtain ⟨h1, h3⟩ := of_and h
      obtain ⟨h1, h2⟩ := of_and h1
      exact .cons (e.ok O x h1).1 (e.ok O x h1).2 h2 (es.ok O xs h3)
theorem Ps.ok {T : Tab} : ∀ (e : Ps) {S : SC} {X : Cx} {W : Wi} (_ : OkX T S X W) {i : Nat} (x : List Expr), e.ck T S i x = true → PA X x (tAP X.K W i (e.den T)) ∧ x.length = (e.den T).length ∧ NoStar x
  | .nil, S, X, W, O, i, x, h => by
    cases x with
    | nil => exact ⟨map_nil, rfl, .nil⟩
    | cons _ _ => cases h
  | .own es, S, X, W, O, i, x, h => by
    match x, h with
    | .Name n p :: xs, h =>
      have h : (S.at i n && es.ck T S i xs) = true := h
      obtain ⟨h1, h3⟩ := of_and h
      obtain ⟨a, b, c⟩ := es.ok O xs h3
      exact ⟨map_skip (O.at h1) a (starEach_of rfl _ _), congrArg (· + 1) b, .cons rfl c⟩
  | .cons e es, S, X, W, O, i, x, h => by
    cases x with
    | nil => cases h
    | cons x xs =>
      have h : (e.ck T S x && notStar x && es.ck T S i xs) = true := h
      obtain ⟨h1, h3⟩ := of_and h
      obtain ⟨h1, h2⟩ := of_and h1
      obtain ⟨a, b, c⟩ := es.ok O xs h3
      exact ⟨map_cons (e.ok O x h1).1 a (starEach_of h2 _ _), congrArg (· + 1) b, .cons h2 c⟩
theorem F.ok {T : Tab} : ∀ (f : F) {S : SC} {X : Cx} {W : Wi} (_ : OkX T S X W) (x : Expr), f.ck T S x = true → PE X x (tF X.K W (f.den T)) ∧ plainT x = true
  | .add a b, S, X, W, O, x, h => by
    cases x with
    | BinOp y op z p =>
      cases op with
      | Add =>
        have h : (a.ck T S y && b.ck T S z) = true := h
        obtain ⟨h1, h2⟩ := of_and h
        exact ⟨mf_add (a.ok O y h1).1 (b.ok O z h2).1, rfl⟩
      | _ => cases h
    | _ => cases h
  | .rep f n, S, X, W, O, x, h => by
    cases x with
    | BinOp y op z p =>
      cases op with
      | Mult =>
        cases z with
        | Constant c k p2 =>
          cases c with
          | int j =>
            have h : (f.ck T S y && decide (n = j)) = true := h
            obtain ⟨h1, h2⟩ := of_and h
            have e : n = j := of_decide_eq_true h2
            subst e
            exact ⟨mf_rep (f.ok O y h1).1, rfl⟩
          | _ => cases h
        | _ => cases h
      | _ => cases h
    | _ => cases h
  | .listB i, S, X, W, O, x, h => by
    cases x with
    | Call fn ys kws p =>
      match fn, ys, kws, h with
      | .Name n p1, [.Name y p2], [], h =>
        have h : (decide (n = "list") && T.gb S n && S.at i y) = true := h
        obtain ⟨h1, h3⟩ := of_and h
        obtain ⟨h1, h2⟩ := of_and h1
        have e : n = "list" := of_decide_eq_true h1
        subst e
        obtain ⟨g1, g2, _⟩ := O.gb h2
        exact ⟨mf_listB g1 g2 (O.at h3) (starEach_of (x := .Name y p2) rfl _ _), rfl⟩
    | _ => cases h
  | .list a, S, X, W, O, x, h => by
    cases x with
    | Call fn ys kws p =>
      match fn, ys, kws, h with
      | .Name n p1, [y], [], h =>
        have h : (decide (n = "list") && T.gb S n && a.ck T S y && notStar y) = true := h
        obtain ⟨h1, h4⟩ := of_and h
        obtain ⟨h1, h3⟩ := of_and h1
        obtain ⟨h1, h2⟩ := of_and h1
        have e : n = "list" := of_decide_eq_true h1
        subst e
        obtain ⟨g1, g2, _⟩ := O.gb h2
        exact ⟨mf_list g1 g2 (a.ok O y h3).1 (starEach_of h4 _ _), rfl⟩
    | _ => cases h
  | .call k es, S, X, W, O, x, h => by
    cases x with
    | Call fn ys kws p =>
      match fn, ys, kws, h with
      | .Name n p1, y :: ys, [], h =>
        have h : (S.mode == 0 && S.gl n && !(n == ("__debug__" : Str)) && (match T.fns[k]? with
          | some p => decide (p.name = n) && decide (p.ar = (y :: ys).length) && p.pin.isNone
          | none => false) && es.ck T S (y :: ys)) = true := h
        obtain ⟨h1, h5⟩ := of_and h
        obtain ⟨h1, h4⟩ := of_and h1
        obtain ⟨h1, h2⟩ := of_and h1
        obtain ⟨h0, h1⟩ := of_and h1
        have h0 : S.mode = 0 := by simpa using h0
        unfold F.den
        cases e : T.fns[k]? with
        | none => rw [e] at h4; cases h4
        | some q =>
          rw [e] at h4
          obtain ⟨h4, h8⟩ := of_and h4
          obtain ⟨h6, h7⟩ := of_and h4
          have e6 : q.name = n := of_decide_eq_true h6
          have e7 : q.ar = (y :: ys).length := of_decide_eq_true h7
          subst e6
          obtain ⟨lv, f, fd, ps, F, hr, hm, hk, hb⟩ := O.call h0 k q e
          have A := es.ok O (y :: ys) h5
          obtain ⟨n, r⟩ := A.ns (pos := p)
          have F := Z.FnOk.plain F h8
          exact ⟨mf_call F hr (O.gl h1) hm hk hb (L2N.passAt O.tk) (by rw [Bool.not_eq_true'] at h2; exact h2) A.args (by rw [e7, A.len]) rfl (starEach_of n _ _) r, rfl⟩
    | _ => cases h
  | .callP k i es, S, X, W, O, x, h => by
    cases x with
    | Call fn ys kws p =>
      match fn, ys, kws, h with
      | .Name n p1, y :: ys, [], h =>
        have h : (S.mode == 0 && S.gl n && !(n == ("__debug__" : Str)) && (match T.fns[k]? with
          | some p => decide (p.name = n) && decide (p.ar = (y :: ys).length) && p.pin.isSome && es.opn (p.pin.getD 0)
          | none => false) && es.ck T S i (y :: ys)) = true := h
        obtain ⟨h1, h5⟩ := of_and h
        obtain ⟨h1, h4⟩ := of_and h1
        obtain ⟨h1, h2⟩ := of_and h1
        obtain ⟨h0, h1⟩ := of_and h1
        have h0 : S.mode = 0 := by simpa using h0
        unfold F.den
        cases e : T.fns[k]? with
        | none => rw [e] at h4; cases h4
        | some q =>
          rw [e] at h4
          obtain ⟨h4, h9⟩ := of_and h4
          obtain ⟨h4, h8⟩ := of_and h4
          obtain ⟨h6, h7⟩ := of_and h4
          have e6 : q.name = n := of_decide_eq_true h6
          have e7 : q.ar = (y :: ys).length := of_decide_eq_true h7
          subst e6
          obtain ⟨lv, f, fd, ps, F, hr, hm, hk, hb⟩ := O.call h0 k q e
          obtain ⟨A, l, st⟩ := es.ok O (y :: ys) h5
          obtain ⟨n1, r⟩ := st.ns (pos := p)
          have F := Z.FnOk.taken F h8
          exact ⟨mf_callP F hr (O.gl h1) hm hk hb (L2N.passAt O.tk) (by rw [Bool.not_eq_true'] at h2; exact h2) A (by rw [e7, l]) (Ps.opens h9) (starEach_of n1 _ _) r, rfl⟩
    | _ => cases h
  | .callN k f, S, X, W, O, x, h => by
    cases x with
    | Call fn ys kws p =>
      match fn, ys, kws, h with
      | .Name n p1, [y], [], h =>
        have h : (S.mode == 0 && S.gl n && !(n == ("__debug__" : Str)) && (match T.fns[k]? with
          | some p => decide (p.name = n) && decide (p.ar = 1) && decide (p.pin = some 0)
          | none => false) && f.ck T S y && notStar y) = true := h
        obtain ⟨h1, h9⟩ := of_and h
        obtain ⟨h1, h5⟩ := of_and h1
        obtain ⟨h1, h4⟩ := of_and h1
        obtain ⟨h1, h2⟩ := of_and h1
        obtain ⟨h0, h1⟩ := of_and h1
        have h0 : S.mode = 0 := by simpa using h0
        unfold F.den
        cases e : T.fns[k]? with
        | none => rw [e] at h4; cases h4
        | some q =>
          rw [e] at h4
          obtain ⟨h4, h8⟩ := of_and h4
          obtain ⟨h6, h7⟩ := of_and h4
          have e6 : q.name = n := of_decide_eq_true h6
          subst e6
          obtain ⟨lv, fa, fd, ps, F, hr, hm, hk, hb⟩ := O.call h0 k q e
          have F := Z.FnOk.taken1 F (of_decide_eq_true h8) (of_decide_eq_true h7)
          exact ⟨mf_callN F hr (O.gl h1) hm hk hb (L2N.passAt O.tk) (by rw [Bool.not_eq_true'] at h2; exact h2) (f.ok O y h5).1 (starEach_of h9 _ _), rfl⟩
    | _ => cases h
  | .dct a, S, X, W, O, x, h => by
    cases x with
    | Call fn ys kws p =>
      match fn, ys, kws, h with
      | .Name n p1, [y], [], h =>
        have h : (S.mode == 0 && decide (n = "dict") && T.gb S n && a.ck T S y && notStar y) = true := h
        obtain ⟨h1, h4⟩ := of_and h
        obtain ⟨h1, h3⟩ := of_and h1
        obtain ⟨h1, h2⟩ := of_and h1
        obtain ⟨h0, h1⟩ := of_and h1
        have h0 : S.mode = 0 := by simpa using h0
        have e : n = "dict" := of_decide_eq_true h1
        subst e
        obtain ⟨g1, g2, _⟩ := O.gb h2
        exact ⟨mf_dct (O.calm h0) g1 g2 (a.ok O y h3).1 (starEach_of h4 _ _), rfl⟩
    | _ => cases h
  | .dsp ks vs, S, X, W, O, x, h => by
    cases x with
    | Dict keys values p =>
      have h : (keys.all (·.isSome) && ks.ck T S (keys.filterMap id) && vs.ck T S values && decide (keys.length = values.length) && !keys.isEmpty && decide (keys.length ≤ 15)) = true := h
      obtain ⟨h, h6⟩ := of_and h
      obtain ⟨h, h5⟩ := of_and h
      obtain ⟨h, h4⟩ := of_and h
      obtain ⟨h, h3⟩ := of_and h
      obtain ⟨h1, h2⟩ := of_and h
      have A := ks.ok O _ h2
      have B := vs.ok O _ h3
      have e := keys_some h1
      have l : keys.length = values.length := of_decide_eq_true h4
      have l2 : (keys.filterMap id).length = keys.length := by
        conv => rhs; rw [e]
        rw [List.length_map]
      have P := AllG.pairs (pos := p) A B (by rw [l2, l])
      rw [← e] at P
      refine ⟨mf_dsp P h1 l (fun z => by subst z; cases h5) (of_decide_eq_true h6) ?_, rfl⟩
      show keys.length = ((ks.den T).zip (vs.den T)).length
      rw [List.length_zip, ← A.len, ← B.len, l2, l, Nat.min_self]
    | _ => cases h
  | .lst es, S, X, W, O, x, h => by
    cases x with
    | List xs p => exact ⟨mf_lst (es.ok O xs h).args, rfl⟩
    | _ => cases h
  | .cut a lo hi, S, X, W, O, x, h => by
    cases x with
    | Subscript y z p =>
      cases z with
      | Slice l u st p2 =>
        cases st with
        | none =>
          have h : (a.ck T S y && lo.ck T S l && hi.ck T S u) = true := h
          obtain ⟨h1, h3⟩ := of_and h
          obtain ⟨h1, h2⟩ := of_and h1
          exact ⟨mf_cut (a.ok O y h1).1 (lo.ok O l h2).2 (hi.ok O u h3).2, rfl⟩
        | some _ => cases h
      | _ => cases h
    | _ => cases h
  | .stp a lo hi st, S, X, W, O, x, h => by
    cases x with
    | Subscript y z p =>
      cases z with
      | Slice l u s p2 =>
        cases s with
        | some s =>
          have h : (a.ck T S y && lo.ck T S l && hi.ck T S u && st.ck T S s) = true := h
          obtain ⟨h1, h4⟩ := of_and h
          obtain ⟨h1, h3⟩ := of_and h1
          obtain ⟨h1, h2⟩ := of_and h1
          exact ⟨mf_stp (a.ok O y h1).1 (lo.ok O l h2).2 (hi.ok O u h3).2 (mp_some (st.ok O s h4).1), rfl⟩
        | none => cases h
      | _ => cases h
    | _ => cases h
  | .comp elt vs tg it t, S, X, W, O, x, h => by
    obtain ⟨y, z, ifs, scope, p, x1, rfl, C, wi⟩ := compOk_of (fun O x h => (elt.ok O x h).1) (fun O tg x h h' => it.ok O x h h') (fun O x h => (t.ok O x h).1) O x h
    have e : (ownOf S vs).map (·.2) = vs := by
      unfold ownOf
      rw [List.map_map]
      exact List.map_id' _
    by_cases h0 : S.mode = 0
    · have m := mf_compI (pos := p) (O.calm h0) O.nd C wi
      rw [e] at m
      exact ⟨m, rfl⟩
    · have hm : it.md S.mode = true := by
        have h : (it.md S.mode && (S.mode == 0 || tg.isVar) && it.ck T S z && notSet z && blkS S scope (ownOf S vs) && tg.slots.all (fun j => decide (j ∈ vs)) && it.tgk y &&
          tg.ck (fun i n => decide (S.N[i]? = some n) && (decide ((S.inner scope).names.lookup n = some .local) || (decide ((S.inner scope).names.lookup n = some .cell) && decide (scope.names.lookup n = some .cell)))) y && elt.ck T (S.inner scope) x1 && decide (ifs.length ≤ 1) && t.ck T (S.inner scope) ifs.head?) = true := h
        simp only [Bool.and_eq_true] at h
        exact h.1.1.1.1.1.1.1.1.1.1
      have hk : it.ck T S z = true := by
        have h : (it.md S.mode && (S.mode == 0 || tg.isVar) && it.ck T S z && notSet z && blkS S scope (ownOf S vs) && tg.slots.all (fun j => decide (j ∈ vs)) && it.tgk y &&
          tg.ck (fun i n => decide (S.N[i]? = some n) && (decide ((S.inner scope).names.lookup n = some .local) || (decide ((S.inner scope).names.lookup n = some .cell) && decide (scope.names.lookup n = some .cell)))) y && elt.ck T (S.inner scope) x1 && decide (ifs.length ≤ 1) && t.ck T (S.inner scope) ifs.head?) = true := h
        simp only [Bool.and_eq_true] at h
        exact h.1.1.1.1.1.1.1.1.2
      obtain ⟨a, rfl, h1⟩ := md_hot hm h0
      obtain ⟨p1, y1, p2, rfl, g1, g2, A, st⟩ := rng_hot (fun O x h => (a.ok O x h).1) O hk
      have m : PE X (.ListComp x1 [⟨y, .Call (.Name "range" p1) [y1] [] p2, ifs, 0⟩] scope p) (tF X.K W (fComp (iRng [a.den T]) tg.st (t.den T) (elt.den T) ((ownOf S vs).map (·.2)))) := PE_imp (pe_lcT (O.hot h1) O.nd g1 g2 A st C.ok C.tg C.tt C.el) fun σ H Q q => rng1_read (comp_read C.hv q)
      rw [e] at m
      exact ⟨m, rfl⟩
theorem I.ok {T : Tab} : ∀ (i : I) {S : SC} {X : Cx} {W : Wi} (_ : OkX T S X W) {tg : Expr} (x : Expr), i.ck T S x = true → i.tgk tg = true → PI X tg x (tI X.K W (i.den T))
  | .seq e, S, X, W, O, tg, x, h, _ => mi_seq (e.ok O x h).1
  | .own i, S, X, W, O, tg, x, h, _ => by
    cases x with
    | Name n p => exact mi_seq (me_var (O.at h))
    | _ => cases h
  | .zip a b, S, X, W, O, tg, x, h, ht => by
    cases x with
    | Call fn ys kws p =>
      match fn, ys, kws, h with
      | .Name n p1, [y, z], [], h =>
        have h : (decide (n = "zip") && T.gb S n && a.ck T S y && notStar y && b.ck T S z && notStar z) = true := h
        obtain ⟨h1, h6⟩ := of_and h
        obtain ⟨h1, h5⟩ := of_and h1
        obtain ⟨h1, h4⟩ := of_and h1
        obtain ⟨h1, h3⟩ := of_and h1
        obtain ⟨h1, h2⟩ := of_and h1
        have e : n = "zip" := of_decide_eq_true h1
        subst e
        obtain ⟨g1, g2, _⟩ := O.gb h2
        have s := starEach_of h4 [z] X.env
        have s2 := starEach_of h6 [] X.env
        cases tg with
        | Tuple ts k p2 => exact mi_zip g1 g2 (ma_cons (a.ok O y h3).1 (ma_cons (b.ok O z h5).1 ma_nil s2) s) s s2
        | _ => cases ht
    | _ => cases h
  | .enum a, S, X, W, O, tg, x, h, ht => by
    cases x with
    | Call fn ys kws p =>
      match fn, ys, kws, h with
      | .Name n p1, [y], [], h =>
        have h : (decide (n = "enumerate") && T.gb S n && a.ck T S y && notStar y) = true := h
        obtain ⟨h1, h4⟩ := of_and h
        obtain ⟨h1, h3⟩ := of_and h1
        obtain ⟨h1, h2⟩ := of_and h1
        have e : n = "enumerate" := of_decide_eq_true h1
        subst e
        obtain ⟨g1, g2, _⟩ := O.gb h2
        have s := starEach_of h4 [] X.env
        cases tg with
        | Tuple ts k p2 => exact mi_enum g1 g2 (ma_cons (a.ok O y h3).1 ma_nil s) s
        | _ => cases ht
    | _ => cases h
  | .rng1 a, S, X, W, O, tg, x, h, _ => by
    cases x with
    | Call fn ys kws p =>
      match fn, ys, kws, h with
      | .Name n p1, [y], [], h =>
        have h : (decide (n = "range") && T.gb S n && a.ck T S y && notStar y) = true := h
        obtain ⟨h1, h4⟩ := of_and h
        obtain ⟨h1, h3⟩ := of_and h1
        obtain ⟨h1, h2⟩ := of_and h1
        have e : n = "range" := of_decide_eq_true h1
        subst e
        obtain ⟨g1, g2, _⟩ := O.gb h2
        have s := starEach_of h4 [] X.env
        exact mi_rng1 g1 g2 (ma_cons (a.ok O y h3).1 ma_nil s) s
    | _ => cases h
  | .rng3 a b c, S, X, W, O, tg, x, h, _ => by
    cases x with
    | Call fn ys kws p =>
      match fn, ys, kws, h with
      | .Name n p1, [y, z, w], [], h =>
        have h : (decide (n = "range") && T.gb S n && a.ck T S y && notStar y && b.ck T S z && notStar z && c.ck T S w && notStar w) = true := h
        obtain ⟨h1, h8⟩ := of_and h
        obtain ⟨h1, h7⟩ := of_and h1
        obtain ⟨h1, h6⟩ := of_and h1
        obtain ⟨h1, h5⟩ := of_and h1
        obtain ⟨h1, h4⟩ := of_and h1
        obtain ⟨h1, h3⟩ := of_and h1
        obtain ⟨h1, h2⟩ := of_and h1
        have e : n = "range" := of_decide_eq_true h1
        subst e
        obtain ⟨g1, g2, _⟩ := O.gb h2
        have s := starEach_of h4 [z, w] X.env
        have s2 := starEach_of h6 [w] X.env
        have s3 := starEach_of h8 [] X.env
        exact mi_rng3 g1 g2 (ma_cons (a.ok O y h3).1 (ma_cons (b.ok O z h5).1 (ma_cons (c.ok O w h7).1 ma_nil s3) s2) s) s (by rw [s2, s3]; rfl)
    | _ => cases h
  | .rng2 a b, S, X, W, O, tg, x, h, _ => by
    cases x with
    | Call fn ys kws p =>
      match fn, ys, kws, h with
      | .Name n p1, [y, z], [], h =>
        have h : (decide (n = "range") && T.gb S n && a.ck T S y && notStar y && b.ck T S z && notStar z) = true := h
        obtain ⟨h1, h6⟩ := of_and h
        obtain ⟨h1, h5⟩ := of_and h1
        obtain ⟨h1, h4⟩ := of_and h1
        obtain ⟨h1, h3⟩ := of_and h1
        obtain ⟨h1, h2⟩ := of_and h1
        have e : n = "range" := of_decide_eq_true h1
        subst e
        obtain ⟨g1, g2, _⟩ := O.gb h2
        have s := starEach_of h4 [z] X.env
        have s2 := starEach_of h6 [] X.env
        exact mi_rng2 g1 g2 (ma_cons (a.ok O y h3).1 (ma_cons (b.ok O z h5).1 ma_nil s2) s) (by rw [s, s2]; rfl) s2
    | _ => cases h
end
end Z

namespace Z
open PySem PySem.Spec PyProof.Rows L2
/-! ### a list of lists that are one's own: x = [[], [], []]; for y in e: x[0].append(..) .. -/
section
variable {K : PySem.W.Frag} {G : Gh} {δ : En} {σ : L2.St} {H0 H : Hp}
def hidS (S : List Addr) (J He : Hp) : Hp := fun b => if b ∈ S then J b else He b
theorem Rl.hideS {S : List Addr} (R : Rl K G δ σ H0 H) (n : ∀ b ∈ S, H0 b = none) (nw : ∀ b ∈ S, NotOwn δ σ b) : Rl K { G with He := hidS S H G.He } δ σ H0 H := by
  refine ⟨R.hs, fun b w e => ?_, R.hf, fun b e => ?_, R.len, fun j s x h1 h2 => ?_, R.dj, R.pn⟩
  · have e : hidS S H G.He b = some w := e
    unfold hidS at e
    split at e
    · exact e
    · exact R.he b w e
  · by_cases hb : b ∈ S
    · rw [n b hb]
      exact (R.hf.free (n b hb)).symm
    · have e : hidS S H G.He b ≠ none := e
      unfold hidS at e
      rw [if_neg hb] at e; exact R.hn b e
  · have q := R.sl j s x h1 h2
    have nea : ∀ c, isOwn s = true → x = some (.ref c) → c ∉ S := fun c ho hx z => by
      subst hx
      exact nw c z j s h1 ho h2
    cases s with
    | no => trivial
    | va d => exact q
    | ow o => obtain ⟨c, e, n, f, w⟩ := q; exact ⟨c, e, n, by show hidS S H G.He c = none; unfold hidS; rw [if_neg (nea c rfl e)]; exact f, w⟩
    | pi o => obtain ⟨c, e, n, f, w, p⟩ := q; exact ⟨c, e, n, by show hidS S H G.He c = none; unfold hidS; rw [if_neg (nea c rfl e)]; exact f, w, p⟩
theorem Rl.unhideS {S : List Addr} {J : Hp} (R : Rl K { G with He := hidS S J G.He } δ σ H0 H) (ne : ∀ b ∈ S, G.He b = none) (nf : ∀ b ∈ S, G.Hf b = none) (js : ∀ b ∈ S, J b ≠ none) : Rl K G δ σ H0 H ∧ ∀ b ∈ S, H b = J b ∧ H0 b = none ∧ NotOwn δ σ b := by
  have at_ : ∀ b, b ∈ S → hidS S J G.He b = J b := fun b h => if_pos h
  have hJ : ∀ b ∈ S, H b = J b := fun b h => by
    cases e : J b with
    | none => exact absurd e (js b h)
    | some u => exact R.he b u (by show hidS S J G.He b = some u; rw [at_ b h, e])
  have out : ∀ c : Addr, hidS S J G.He c = none → c ∉ S := fun c e z => js c z (by rw [at_ c z] at e; exact e)
  refine ⟨⟨R.hs, fun b w e => R.he b w ?_, R.hf, fun b e => R.hn b ?_, R.len, fun j s x h1 h2 => ?_, R.dj, R.pn⟩, fun b hb => ⟨hJ b hb, ?_, fun j s e o q => ?_⟩⟩
  · show hidS S J G.He b = some w
    unfold hidS
    rw [if_neg (fun z => by rw [ne b z] at e; cases e)]; exact e
  · have hb : b ∉ S := fun z => e (ne b z)
    show hidS S J G.He b ≠ none
    unfold hidS
    rw [if_neg hb]; exact e
  · have q := R.sl j s x h1 h2
    cases s with
    | no => trivial
    | va d => exact q
    | ow o => obtain ⟨c, e, n, f, w⟩ := q; exact ⟨c, e, n, by have f : hidS S J G.He c = none := f; have z := out c f; unfold hidS at f; rw [if_neg z] at f; exact f, w⟩
    | pi o => obtain ⟨c, e, n, f, w, p⟩ := q; exact ⟨c, e, n, by have f : hidS S J G.He c = none := f; have z := out c f; unfold hidS at f; rw [if_neg z] at f; exact f, w, p⟩
  · have := R.hn b (by show hidS S J G.He b ≠ none; rw [at_ b hb]; exact js b hb)
    rw [this]; exact nf b hb
  · have w := R.sl j s _ e q
    cases s with
    | no => cases o
    | va d => cases o
    | ow o => obtain ⟨c, e, n, f, w⟩ := w; cases e; exact out _ f hb
    | pi o => obtain ⟨c, e, n, f, w, p⟩ := w; cases e; exact out _ f hb
/-- what is new may be read -/
theorem Rl.take_inS {S : List Addr} (R : Rl K G δ σ H0 H) (n0 : ∀ b ∈ S, H0 b = none) (ne : ∀ b ∈ S, G.He b = none) (nw : ∀ b ∈ S, NotOwn δ σ b) : Rl K G δ σ (hidS S H H0) H ∧ Same H0 (hidS S H H0) := by
  have s1 : Same H0 (hidS S H H0) := fun b w e => by
    unfold hidS
    rw [if_neg (fun z => by rw [n0 b z] at e; cases e)]; exact e
  refine ⟨⟨fun b w e => ?_, R.he, R.hf.trans s1, fun b e => ?_, R.len, fun j s x h1 h2 => ?_, R.dj, R.pn⟩, s1⟩
  · unfold hidS at e
    split at e
    · exact e
    · exact R.hs b w e
  · have hb : b ∉ S := fun z => e (ne b z)
    unfold hidS
    rw [if_neg hb]; exact R.hn b e
  · have q := R.sl j s x h1 h2
    have nea : ∀ c, isOwn s = true → x = some (.ref c) → c ∉ S := fun c ho hx z => by
      subst hx
      exact nw c z j s h1 ho h2
    cases s with
    | no => trivial
    | va d => obtain ⟨v, e, r⟩ := q; exact ⟨v, e, r.mono s1⟩
    | ow o => obtain ⟨c, e, n, f, w⟩ := q; exact ⟨c, e, by unfold hidS; rw [if_neg (nea c rfl e)]; exact n, f, w.mono s1 rfl⟩
    | pi o => obtain ⟨c, e, n, f, w, p⟩ := q; exact ⟨c, e, by unfold hidS; rw [if_neg (nea c rfl e)]; exact n, f, w.mono s1 rfl, p⟩
/-- a slot of no concern takes anything -/
theorem Rl.set_any {i : Nat} {x : Option V} (R : Rl K G δ σ H0 H) (hi : δ[i]? = some .no) : Rl K G δ (σ.set i x) H0 H where
  hs := R.hs
  he := R.he
  hf := R.hf
  hn := R.hn
  len := by rw [List.length_set, R.len]
  sl := fun j s x a b => by
    by_cases hj : i = j
    · subst hj
      rw [hi] at a; cases a; trivial
    · rw [List.getElem?_set_ne hj] at b
      exact R.sl j s x a b
  dj := fun j k s t a ne e1 e2 o1 o2 f1 f2 => by
    have hj : i ≠ j := fun z => by subst z; rw [hi] at e1; cases e1; cases o1
    have hk : i ≠ k := fun z => by subst z; rw [hi] at e2; cases e2; cases o2
    rw [List.getElem?_set_ne hj] at f1
    rw [List.getElem?_set_ne hk] at f2
    exact R.dj j k s t a ne e1 e2 o1 o2 f1 f2
  pn := fun j a hp => by
    obtain ⟨o, e1, e2⟩ := R.pn j a hp
    have hj : i ≠ j := fun z => by subst z; rw [hi] at e1; cases e1
    exact ⟨o, e1, by rw [List.getElem?_set_ne hj]; exact e2⟩
theorem NotOwn.set_any {i : Nat} {x : Option V} {a : Addr} (h : NotOwn δ σ a) (hi : δ[i]? = some .no) : NotOwn δ (σ.set i x) a := fun j s e o q => by
  have hj : i ≠ j := fun z => by subst z; rw [hi] at e; cases e; cases o
  rw [List.getElem?_set_ne hj] at q
  exact h j s e o q
theorem NotOwn.lose {i : Nat} {a : Addr} (h : NotOwn δ σ a) : NotOwn (δ.set i .no) σ a := fun j s e o q => by
  by_cases hj : i = j
  · subst hj
    by_cases hl : i < δ.length
    · rw [List.getElem?_set_self hl] at e; cases e; cases o
    · rw [List.getElem?_eq_none (by simpa using hl)] at e; cases e
  · rw [List.getElem?_set_ne hj] at e
    exact h j s e o q
end
/-- slot i: the list at a, its lists at bs -/
structure Nst (K : PySem.W.Frag) (G : Gh) (δ : En) (σ : L2.St) (H0 H : Hp) (i : Nat) (a : Addr) (bs : List Addr) (dss : List (List D)) : Prop where
  R : Rl K G δ σ H0 H
  sg : σ[i]? = some (some (.ref a))
  ha : H a = some (.lst (bs.map V.ref))
  na : a ∉ bs
  nd : bs.Nodup
  n0 : ∀ b ∈ a :: bs, H0 b = none
  ne : ∀ b ∈ a :: bs, G.He b = none
  nw : ∀ b ∈ a :: bs, NotOwn δ σ b
  len : dss.length = bs.length
  it : ∀ (k : Nat) (b : Addr) (ds : List D), bs[k]? = some b → dss[k]? = some ds → ∃ us, H b = some (.lst us) ∧ Reps K H0 us ds
section
variable {K : PySem.W.Frag} {W : Wi} {G : Gh} {δ : En} {σ : L2.St} {H0 H : Hp} {i : Nat} {a : Addr} {bs : List Addr} {dss : List (List D)}
theorem Nst.some_ (N : Nst K G δ σ H0 H i a bs dss) : ∀ b ∈ a :: bs, H b ≠ none := fun b hb => by
  rcases List.mem_cons.mp hb with e | e
  · rw [e, N.ha]; simp
  · obtain ⟨k, hk, e⟩ := List.mem_iff_getElem.mp e
    have hk2 : k < dss.length := by rw [N.len]; exact hk
    obtain ⟨us, h, _⟩ := N.it k b dss[k] (by rw [List.getElem?_eq_getElem hk, e]) (List.getElem?_eq_getElem hk2)
    rw [h]; simp
theorem Nst.back {δ' : En} {σ' : L2.St} {H1 H' : Hp} (N : Nst K G δ σ H0 H i a bs dss) (R1 : Rl K { G with He := hidS (a :: bs) H G.He } δ' σ' H1 H') (s1 : Same H0 H1) (hσ : σ'[i]? = σ[i]?) : Nst K G δ' σ' H1 H' i a bs dss := by
  obtain ⟨R2, z⟩ := R1.unhideS N.ne (fun b hb => N.R.hf.free (N.n0 b hb)) N.some_
  exact { R := R2, sg := by rw [hσ, N.sg], ha := by rw [(z a (by simp)).1, N.ha], na := N.na, nd := N.nd, n0 := fun b hb => (z b hb).2.1, ne := N.ne, nw := fun b hb => (z b hb).2.2, len := N.len, it := fun k b ds e1 e2 => (by
    obtain ⟨us, h1, h2⟩ := N.it k b ds e1 e2
    exact ⟨us, by rw [(z b (List.mem_cons_of_mem _ (List.mem_of_getElem? e1))).1, h1], h2.mono s1⟩) }
theorem Nst.grow {H1 H' : Hp} (N : Nst K G δ σ H0 H i a bs dss) (g : Gr H0 H H1 H') : Nst K G δ σ H1 H' i a bs dss where
  R := N.R.grow g
  sg := N.sg
  ha := g.hs _ _ N.ha
  na := N.na
  nd := N.nd
  n0 := fun b hb => by rw [g.hn b (N.some_ b hb), N.n0 b hb]
  ne := N.ne
  nw := N.nw
  len := N.len
  it := fun k b ds e1 e2 => by
    obtain ⟨us, h1, h2⟩ := N.it k b ds e1 e2
    exact ⟨us, g.hs _ _ h1, h2.mono g.h0⟩
theorem Nst.eval (N : Nst K G δ σ H0 H i a bs dss) {f : Den} {d : D} {δ' : En} {Q : VK} (hf : f δ = .ok d δ') (h : ∀ v H1 H', Nst K G δ' σ H1 H' i a bs dss → Same H0 H1 → Rep K H1 v d → Q v H') : tM K W f σ H Q := by
  refine ⟨_, δ, H0, N.R.hideS N.n0 N.nw, ?_⟩
  rw [hf]
  exact fun v H1 H' R1 s1 r1 => h v H1 H' (N.back R1 s1 rfl) s1 r1
theorem Nst.app (N : Nst K G δ σ H0 H i a bs dss) {k : Nat} {ds : List D} {v : V} {d : D} (hd : dss[k]? = some ds) (r : Rep K H0 v d) : ∃ b us, bs[k]? = some b ∧ H b = some (.lst us) ∧ us.length = ds.length ∧ Nst K G δ σ H0 (upd H b (.lst (us ++ [v]))) i a bs (dss.set k (ds ++ [d])) := by
  have hk : k < bs.length := by rw [← N.len]; exact (List.getElem?_eq_some_iff.mp hd).1
  have hb : bs[k]? = some bs[k] := List.getElem?_eq_getElem hk
  have hm : bs[k] ∈ a :: bs := List.mem_cons_of_mem _ (List.getElem_mem hk)
  obtain ⟨us, h1, h2⟩ := N.it k _ ds hb hd
  have nab : a ≠ bs[k] := fun z => N.na (by rw [z]; exact List.getElem_mem hk)
  refine ⟨bs[k], us, hb, h1, h2.length, { R := N.R.poke (N.n0 _ hm) (N.ne _ hm) (N.nw _ hm), sg := N.sg, ha := by rw [upd_ne nab]; exact N.ha, na := N.na, nd := N.nd, n0 := N.n0, ne := N.ne, nw := N.nw, len := by rw [List.length_set, N.len], it := fun j b es e1 e2 => ?_ }⟩
  by_cases hj : k = j
  · subst hj
    rw [hb] at e1; cases e1
    rw [List.getElem?_set_self (by rw [N.len]; exact hk)] at e2; cases e2
    exact ⟨_, upd_same, h2.append (.cons r .nil)⟩
  · rw [List.getElem?_set_ne hj] at e2
    obtain ⟨ws, h3, h4⟩ := N.it j b es e1 e2
    have hjl : j < bs.length := (List.getElem?_eq_some_iff.mp e1).1
    have eb : bs[j] = b := (List.getElem?_eq_some_iff.mp e1).2
    have nb : b ≠ bs[k] := fun z => by
      rw [← eb] at z
      exact hj ((List.getElem_inj N.nd).mp z).symm
    exact ⟨ws, by rw [upd_ne nb]; exact h3, h4⟩
/-- from now on it is read alone -/
theorem Nst.froze (N : Nst K G δ σ H0 H i a bs dss) (np : ∀ o, δ[i]? ≠ some (.pi o)) : ∃ H1, Rl K G (δ.set i (.va (.lst (dss.map .lst)))) σ H1 H ∧ Same H0 H1 := by
  obtain ⟨R1, s1⟩ := N.R.take_inS N.n0 N.ne N.nw
  have at_ : ∀ b ∈ a :: bs, hidS (a :: bs) H H0 b = H b := fun b hb => if_pos hb
  have rr : ∀ (cs : List Addr) (es : List (List D)), es.length = cs.length → (∀ (k : Nat) (b : Addr) (ds : List D), cs[k]? = some b → es[k]? = some ds → ∃ us, hidS (a :: bs) H H0 b = some (.lst us) ∧ Reps K (hidS (a :: bs) H H0) us ds) → Reps K (hidS (a :: bs) H H0) (cs.map V.ref) (es.map .lst) := by
    intro cs
    induction cs with
    | nil => intro es l _; cases es with
      | nil => exact .nil
      | cons _ _ => cases l
    | cons c cs ih => intro es l h; cases es with
      | nil => cases l
      | cons e es =>
        obtain ⟨us, h1, h2⟩ := h 0 c e rfl rfl
        exact .cons (.lst (.inl (.inl h1)) h2) (ih es (by simpa using l) fun k b ds e1 e2 => h (k + 1) b ds (by simpa using e1) (by simpa using e2))
  have r := rr bs dss N.len fun k b ds e1 e2 => by
    obtain ⟨us, h1, h2⟩ := N.it k b ds e1 e2
    exact ⟨us, by rw [at_ b (List.mem_cons_of_mem _ (List.mem_of_getElem? e1)), h1], h2.mono s1⟩
  have ra : Rep K (hidS (a :: bs) H H0) (.ref a) (.lst (dss.map .lst)) := .lst (.inl (.inl (by rw [at_ a (by simp), N.ha]))) r
  have R2 := R1.set_va (i := i) ra np
  have es : σ.set i (some (.ref a)) = σ := by
    apply List.ext_getElem?
    intro k
    by_cases hk : i = k
    · subst hk
      rw [List.getElem?_set_self (List.getElem?_eq_some_iff.mp N.sg).1, N.sg]
    · rw [List.getElem?_set_ne hk]
  rw [es] at R2
  exact ⟨_, R2, s1⟩
end
/-! ### the turns -/
def apsF : List (Nat × Den) → En → List (List D) → Option (En × List (List D))
  | [], δ, dss => some (δ, dss)
  | (k, f) :: r, δ, dss => match f δ, dss[k]? with
    | .ok d δ', some ds => if ds.length < 1000000 then apsF r δ' (dss.set k (ds ++ [d])) else none
    | _, _ => none
def nstF (i : Nat) (g : D → En → Option En) (l : List (Nat × Den)) : List D → List (List D) → En → RS
  | [], dss, δ => setC δ[i]? i (.va (.lst (dss.map .lst))) δ
  | d :: ds, dss, δ => match g d δ with
    | none => .bad
    | some δ1 => match apsF l δ1 dss with
      | some (δ2, ess) => nstF i g l ds ess δ2
      | none => .bad
def nstK (i : Nat) (g : D → En → Option En) (l : List (Nat × Den)) (n : Nat) : RE → RS
  | .ok d δ => (match seqOf d with
    | some ds => nstF i g l ds (List.replicate n []) δ
    | none => .bad)
  | _ => .bad
def sNst (i : Nat) (g : D → En → Option En) (fi : Den) (l : List (Nat × Den)) (n : Nat) : SDen := fun δ => match δ[i]? with
  | none => .bad
  | some (.pi _) => .bad
  | some _ => nstK i g l n (fi (δ.set i .no))
section
variable {X : Cx} {W : Wi} {pos : Pos}
def tAps (K : PySem.W.Frag) (i : Nat) (l : List (Nat × Den)) : TS := fun D σ H => ∃ G δ H0 a bs dss δ' dss', Nst K G δ σ H0 H i a bs dss ∧ apsF l δ dss = some (δ', dss') ∧ ∀ H1 H', Nst K G δ' σ H1 H' i a bs dss' → Same H0 H1 → D.nx σ H'
theorem aps_nil {i : Nat} : PSs X [] (tAps X.K i []) := PSs_imp pss_nil fun D σ H ⟨G, δ, H0, a, bs, dss, δ', dss', N, e, q⟩ => by
  cases e
  exact q H0 H N (Same.refl _)
theorem refs_get {bs : List Addr} {k : Nat} {b : Addr} (h : bs[k]? = some b) : (bs.map V.ref)[k]? = some (V.ref b) := by rw [List.getElem?_map, h]; rfl
theorem aps_cons {i k : Nat} {x : Str} {e : Expr} {f : Den} {px pk ps apos cpos p : Pos} {kk : Nat} {rest : List Stmt} {l : List (Nat × Den)} (hx : PE X (.Name x px) (tVar i)) (hk : PE X (.Constant (.int (k : Int)) kk pk) (tC (.int (k : Int)))) (he : PE X e (tM X.K W f))
    (hfew : ((backTo cpos (starEach [e] X.env)).all (fun x => !x.1) && (backToKw cpos (keywordEach [] X.env)).all (fun x => x.1.isSome)
      && decide ([e].length + ([] : List Keyword).length + (if ([] : List Keyword).isEmpty then 0 else 1) < 30)) = true)
    (hline : (apos.endLine == cpos.line) = true) (hs : starEach [e] X.env = [(false, eval e X.env)]) (hr : PSs X rest (tAps X.K i l)) :
    PSs X (.Expr (.Call (.Attribute (.Subscript (.Name x px) (.Constant (.int (k : Int)) kk pk) ps) "append" apos) [e] [] cpos) p :: rest) (tAps X.K i ((k, f) :: l)) :=
  PSs_imp (pss_cons (ps_expr (pe_bm PySem.F.plainAttrs_list PySem.F.slot_list_append PySem.F.type_list_append mt_append (pe_ix ix_list hx hk (plainIx_of rfl)) (pa_cons he pa_nil hs) rfl hfew hline hs rfl) rfl) hr) fun D σ H ⟨G, δ, H0, a, bs, dss, δ', dss', N, e, q⟩ => by
    unfold apsF at e
    split at e
    · rename_i d δ1 ds ef ed
      split at e
      · rename_i hl
        have hkb : k < bs.length := by rw [← N.len]; exact (List.getElem?_eq_some_iff.mp ed).1
        obtain ⟨us, h1, h2⟩ := N.it k bs[k] ds (List.getElem?_eq_getElem hkb) ed
        refine ⟨.ref a, N.sg, a, bs.map V.ref, (k : Int), .ref bs[k], rfl, rfl, .inl (.inl N.ha), ?_, .inl ⟨rfl, us, .inl (.inl h1)⟩, N.eval ef fun v H1 H' N1 s1 r1 => ?_⟩
        · have e1 : L2.ixN (bs.map V.ref).length (k : Int) = some k := by
            unfold L2.ixN
            rw [if_pos (by omega), if_pos (by rw [List.length_map]; omega)]
            simp
          unfold L2.atI
          rw [e1]
          exact refs_get (List.getElem?_eq_getElem hkb)
        · obtain ⟨b, ws, e1, e2, e3, N2⟩ := N1.app ed r1
          rw [List.getElem?_eq_getElem hkb] at e1
          cases e1
          exact ⟨_, ws, v, rfl, rfl, e2, by rw [e3]; exact Nat.lt_of_lt_of_le hl (by decide), G, δ1, H1, a, bs, _, δ', dss', N2, e, fun H2 H'' N3 s3 => q H2 H'' N3 (s1.trans s3)⟩
      · cases e
    · cases e
/-- three new lists in a list -/
theorem nst_new {G : Gh} {δ : En} {σ : L2.St} {H0 H : Hp} {i : Nat} {a0 a1 a2 a : Addr} (R : Rl X.K G δ σ H0 H) (hi : i < δ.length) (np : ∀ o, δ[i]? ≠ some (.pi o)) (n0 : H a0 = none) (n1 : upd H a0 (.lst []) a1 = none) (n2 : upd (upd H a0 (.lst [])) a1 (.lst []) a2 = none)
    (n3 : upd (upd (upd H a0 (.lst [])) a1 (.lst [])) a2 (.lst []) a = none) :
    Nst X.K G (δ.set i .no) (σ.set i (some (.ref a))) H0 (upd (upd (upd (upd H a0 (.lst [])) a1 (.lst [])) a2 (.lst [])) a (.lst [.ref a0, .ref a1, .ref a2])) i a [a0, a1, a2] [[], [], []] := by
  have ne : ∀ {J : Hp} {b c : Addr} {u : HO}, upd J b u c = none → b ≠ c ∧ J c = none := fun {J b c u} e => by
    have hb : b ≠ c := fun z => by subst z; rw [upd_same] at e; cases e
    exact ⟨hb, by rw [upd_ne (Ne.symm hb)] at e; exact e⟩
  obtain ⟨x01, m1⟩ := ne n1
  obtain ⟨x12, m2⟩ := ne n2
  obtain ⟨x02, m3⟩ := ne m2
  obtain ⟨x2a, m4⟩ := ne n3
  obtain ⟨x1a, m5⟩ := ne m4
  obtain ⟨x0a, m6⟩ := ne m5
  have g := (((Gr.lay (o := .lst []) R.hs n0).trans (Gr.lay (o := .lst []) (R.grow (Gr.lay R.hs n0)).hs n1)).trans (Gr.lay (o := .lst []) ((R.grow (Gr.lay R.hs n0)).grow (Gr.lay (R.grow (Gr.lay R.hs n0)).hs n1)).hs n2))
  have R3 := R.grow g
  have R4 := R3.grow (Gr.lay (o := .lst [.ref a0, .ref a1, .ref a2]) R3.hs n3)
  have npin : ∀ c, (i, c) ∉ G.pins := fun c hp => by
    obtain ⟨o, e, _⟩ := R.pn i c hp
    exact np o e
  have R5 := R4.lose npin
  have hno : (δ.set i Sl.no)[i]? = some .no := List.getElem?_set_self hi
  have all : ∀ {P : Addr → Prop}, P a → P a0 → P a1 → P a2 → ∀ b ∈ a :: [a0, a1, a2], P b := fun pa p0 p1 p2 b hb => by
    simp only [List.mem_cons, List.not_mem_nil, or_false] at hb
    rcases hb with e | e | e | e <;> subst e <;> assumption
  have hn : ∀ b ∈ a :: [a0, a1, a2], H b = none := all m6 n0 m1 m3
  refine { R := R5.set_any hno, sg := List.getElem?_set_self (by rw [← R.len]; exact hi), ha := upd_same, na := by simp [Ne.symm x0a, Ne.symm x1a, Ne.symm x2a], nd := by simp [x01, x02, x12], n0 := fun b hb => R.hs.free (hn b hb), ne := fun b hb => R.he_none (hn b hb), nw := fun b hb => (NotOwn.lose (R.own_ne (hn b hb))).set_any hno, len := rfl, it := fun k b ds e1 e2 => ?_ }
  match k, e1, e2 with
  | 0, e1, e2 => cases e1; cases e2; exact ⟨[], by rw [upd_ne x0a, upd_ne x02, upd_ne x01, upd_same], .nil⟩
  | 1, e1, e2 => cases e1; cases e2; exact ⟨[], by rw [upd_ne x1a, upd_ne x12, upd_same], .nil⟩
  | 2, e1, e2 => cases e1; cases e2; exact ⟨[], by rw [upd_ne x2a, upd_same], .nil⟩
  | k + 3, e1, e2 => cases e1
theorem ms_nst {i : Nat} {x : Str} {px q0 q1 q2 q3 p1 p2 : Pos} {tg iter : Expr} {body rest : List Stmt} {g : D → En → Option En} {vs : List Nat} {fi : Den} {l : List (Nat × Den)} {fr : SDen} (hN : X.N.Nodup) (hi : X.N[i]? = some x) (hx : Loc X.env.scope x) (hf : X.fn x = true ∨ X.env.scope.names.lookup x = some .local)
    (hp : PassesOwn (model X.prog X.w) X.A X.env X.xe) (hc : X.calm = true) (hit : PE X iter (tM X.K W fi)) (hg : PG X tg (gM X.K g vs)) (hiv : i ∉ vs) (hb : PSs X body (tAps X.K i l)) (hs : ∀ x, foldedSetIterable iter X.env x = pure x) (hr : PSs X rest (sM X.K W fr)) :
    PSs X (.Assign [.Name x px] (.List [.List [] q0, .List [] q1, .List [] q2] q3) p1 :: .For tg iter body [] p2 :: rest) (sM X.K W (sSeq (sNst i g fi l 3) fr)) := by
  have h1 := ps_set (pos := p1) (pos' := px) hN hi hx (pe_lst (pos := q3) (pa_cons (pe_lst (pos := q0) pa_nil) (pa_cons (pe_lst (pos := q1) pa_nil) (pa_cons (pe_lst (pos := q2) pa_nil) pa_nil)))) rfl hf
  refine PSs_imp (pss_cons h1 (pss_cons (ps_for (pos := p2) hp hc (PI_or (pi_list (tg := tg) hit) (pi_tup (tg := tg) hit)) hg hb hs) hr)) fun D σ H ⟨G, δ, H0, R, q⟩ => ?_
  unfold sSeq sNst at q
  cases ei : δ[i]? with
  | none => rw [ei] at q; exact q.elim
  | some s =>
    have q : PoS X.K W G H0 (bindS (nstK i g l 3 (fi (δ.set i .no))) fr) D ∧ ∀ o, δ[i]? ≠ some (.pi o) := by
      rw [ei] at q
      cases s with
      | pi _ => exact q.elim
      | _ => exact ⟨q, fun o z => by rw [ei] at z; cases z⟩
    obtain ⟨q, np⟩ := q
    have hil : i < δ.length := (List.getElem?_eq_some_iff.mp ei).1
    cases ef : fi (δ.set i .no) with
    | bad => rw [ef] at q; exact q.elim
    | rz c δ1 => rw [ef] at q; exact q.elim
    | ok d δ1 =>
      rw [ef] at q
      have q : PoS X.K W G H0 (bindS (match seqOf d with
        | some ds => nstF i g l ds [[], [], []] δ1
        | none => .bad) fr) D := q
      refine ⟨by decide, fun a0 n0 => ⟨by decide, fun a1 n1 => ⟨by decide, fun a2 n2 => ⟨(show (3 : Nat) ≤ sizeLine by decide), fun a n => ?_⟩⟩⟩⟩
      have N := nst_new R hil np n0 n1 n2 n
      have core : ∀ (J : It) (Hi H' : Hp) (ds : List Z.D), seqOf d = some ds → Nst X.K G δ1 (σ.set i (some (.ref a))) Hi H' i a [a0, a1, a2] [[], [], []] → Same H0 Hi → Yields X.K J (fun _ => none) Hi ds →
          ∃ W' : Nat → Nat → L2.St → Hp → Prop, (∃ m, W' 0 m (σ.set i (some (.ref a))) H') ∧ ∀ k m σ H, W' k m σ H →
            (J.stop k H ∧ sM X.K W fr D σ H) ∨ (J.go k H ∧ ∃ Nn : L2.St → Hp → Prop, (∀ σ' H', Nn σ' H' → ∃ m', m' < m ∧ W' (k + 1) m' σ' H') ∧ ∀ x H', J.yld k H x H' → gM X.K g vs x σ H' fun σ2 H2 => tAps X.K i l { D with nx := Nn, ct := Nn, bk := sM X.K W fr D } σ2 H2) := by
        intro J Hi H' ds es N1 s1 Y
        rw [es] at q
        have q : PoS X.K W G H0 (bindS (nstF i g l ds [[], [], []] δ1) fr) D := q
        have noH : ∀ H : Hp, Same (fun _ => none) H := fun H b u e => by cases e
        refine ⟨fun k m σ H => m = ds.length - k ∧ k ≤ ds.length ∧ ∃ δ H0 dss, Nst X.K G δ σ H0 H i a [a0, a1, a2] dss ∧ Same Hi H0 ∧ PoS X.K W G H0 (bindS (nstF i g l (ds.drop k) dss δ) fr) D, ⟨_, rfl, Nat.zero_le _, δ1, Hi, _, N1, Same.refl _, q.up s1⟩, ?_⟩
        rintro k m σ H ⟨rfl, hk, δ, H0, dss, N2, s0, q⟩
        by_cases hlt : k < ds.length
        · refine .inr ⟨Y.go k H (s0.trans N2.R.hs) (noH H) hlt, fun σ' H' => ∃ δ H0 dss, Nst X.K G δ σ' H0 H' i a [a0, a1, a2] dss ∧ Same Hi H0 ∧ PoS X.K W G H0 (bindS (nstF i g l (ds.drop (k + 1)) dss δ) fr) D, fun σ' H' w => ⟨_, by omega, rfl, hlt, w⟩, fun x H' y => ?_⟩
          obtain ⟨d, H1, ed, gr, r⟩ := Y.yld k H x H' H0 s0 N2.R.hs (noH H) hlt y
          have ec : ds.drop k = d :: ds.drop (k + 1) := by
            rw [List.drop_eq_getElem_cons hlt]
            congr 1
            rw [List.getElem?_eq_getElem hlt] at ed
            exact Option.some.inj ed
          rw [ec] at q
          have N3 := N2.grow gr
          unfold nstF at q
          cases eg : g d δ with
          | none => rw [eg] at q; exact q.elim
          | some δ2 =>
            rw [eg] at q
            cases ea : apsF l δ2 dss with
            | none =>
              have q : PoS X.K W G H0 (bindS (match apsF l δ2 dss with
                | some (δ2, ess) => nstF i g l (ds.drop (k + 1)) ess δ2
                | none => .bad) fr) D := q
              rw [ea] at q; exact q.elim
            | some z =>
              obtain ⟨δ3, ess⟩ := z
              have q : PoS X.K W G H0 (bindS (match apsF l δ2 dss with
                | some (δ2, ess) => nstF i g l (ds.drop (k + 1)) ess δ2
                | none => .bad) fr) D := q
              rw [ea] at q
              exact ⟨_, δ, H1, d, δ2, N3.R.hideS N3.n0 N3.nw, r, eg, fun σ' R2 out _ => ⟨G, δ2, H1, a, _, dss, δ3, ess, N3.back R2 (Same.refl _) (out i hiv), ea, fun H2 H'' N4 s4 => ⟨δ3, H2, ess, N4, s0.trans (gr.h0.trans s4), PoS.up (q.up gr.h0) s4⟩⟩⟩
        · have ek : k = ds.length := by omega
          refine .inl ⟨Y.stop k H (s0.trans N2.R.hs) (noH H) (by omega), ?_⟩
          rw [ek, List.drop_length] at q
          unfold nstF at q
          have key : (∀ o, δ[i]? ≠ some (.pi o)) ∧ PoS X.K W G H0 (fr (δ.set i (.va (.lst (dss.map .lst))))) D := by
            unfold setC at q
            cases e2 : δ[i]? with
            | none => rw [e2] at q; exact q.elim
            | some s =>
              rw [e2] at q
              cases s with
              | pi _ => exact q.elim
              | _ => exact ⟨fun o z => (by cases z), q⟩
          obtain ⟨H1, R1, s1'⟩ := N2.froze key.1
          exact ⟨G, _, H1, R1, key.2.up s1'⟩
      cases d with
      | lst ds =>
        refine .inl (N.eval ef fun v H1 H' N1 s1 r1 => ?_)
        cases r1 with
        | lst hq rs => exact ⟨_, rfl, ⟨_, N1.R.hs.seq hq⟩, core _ H1 H' ds rfl N1 s1 (yields_lst hq rs)⟩
      | tup ds =>
        refine .inr (N.eval ef fun v H1 H' N1 s1 r1 => ?_)
        cases r1 with
        | tup hq rs => exact ⟨_, rfl, ⟨_, Same.seqT N1.R.hs hq⟩, core _ H1 H' ds rfl N1 s1 (yields_tup hq rs)⟩
      | _ => exact q.elim
end
end Z

namespace Z
open PySem PySem.Spec PyProof.Rows L2
mutual
inductive S where
  | asg (tg : Tg) (e : E) | par (i j : Nat) (a b : E) | own (i : Nat) (f : F)
  | exp (e : E) | app (i : Nat) (e : E) | sub (i : Nat) (ix e : E) | aug (o : Bool) (i : Nat) (e : E)
  | ret (e : E) | retN | ifs (c : E) (a b : Ss) | whl (ws : List Nat) (n : En → Nat) (c : E) (b : Ss) | for (ws : List Nat) (tg : Tg) (it : I) (b : Ss)
  | pass | brk | cnt | retF (f : F) | retO (i : Nat) | bad | ext (i : Nat) (f : F) | ins (i : Nat) (ix e : E) | augI (o : Bool) (i : Nat) (ix e : E) | par3 (i j l : Nat) (a b c : E)
  | ownC (i k : Nat) (es : Es) | retC (k : Nat) (es : Es) | raise (c : Nat) | tryA (b : Ss) (c i : Nat) (u : Su) | tryN (b : Ss) (hs : Hs)
inductive Ss where
  | nil | cons (s : S) (ss : Ss) | nst (i : Nat) (tg : Tg) (it : E) (l : List (Nat × E)) (ss : Ss)
/-- the suite of except X as e; retH: return f(e, ..); asgH: x = f(e, ..); rtnH: return (None, f(e, ..)) -/
inductive Su where
  | ss (ss : Ss) | retH (k : Nat) (es : Es) | asgH (j k : Nat) (es : Es) | rtnH (k : Nat) (es : Es)
inductive Hs where
  | nil | cons (c : Nat) (ss : Ss) (hs : Hs)
end
/-! ### exceptions: their meaning -/
def sRaise (c : Nat) : SDen := fun δ => .rz ⟨c, []⟩ δ
def clrS (i : Nat) (δ : En) (k : En → RS) : RS :=
  match δ[i]? with
  | some (.pi _) => .bad
  | _ => k (δ.set i .no)
/-- behind the suite its name is gone -/
def catchS (i : Nat) (r : RS) : RS :=
  match r with
  | .nx δ => clrS i δ .nx
  | .bk δ => clrS i δ .bk
  | .ct δ => clrS i δ .ct
  | .rt d δ => .rt d δ
  | .ro o δ => .ro o δ
  | _ => .bad
def setX (i c : Nat) (δ : En) (k : En → RS) : RS :=
  match δ[i]? with
  | none => .bad
  | some (.pi _) => .bad
  | some _ => k (δ.set i (.va (.exc c)))
def tryA1 (rs : List Nat) (c i : Nat) (fu : SDen) (e : Exc) (δ : En) : RS :=
  if e.pl.isEmpty && rs.contains e.c then (if subE e.c c then setX i e.c δ fun δ1 => catchS i (fu δ1) else .rz e δ) else .bad
def sTryA (rs : List Nat) (fb : SDen) (c i : Nat) (fu : SDen) : SDen := fun δ =>
  match fb δ with
  | .rz e δ1 => tryA1 rs c i fu e δ1
  | r => r
def noRz (r : RS) : RS :=
  match r with
  | .rz _ _ => .bad
  | r => r
def pickH (e : Exc) (δ : En) : List (Nat × SDen) → RS
  | [] => .rz e δ
  | (c, f) :: r => if subE e.c c then noRz (f δ) else pickH e δ r
def tryN1 (rs : List Nat) (hs : List (Nat × SDen)) (e : Exc) (δ : En) : RS := if e.pl.isEmpty && rs.contains e.c then pickH e δ hs else .bad
def sTryN (rs : List Nat) (fb : SDen) (hs : List (Nat × SDen)) : SDen := fun δ =>
  match fb δ with
  | .rz e δ1 => tryN1 rs hs e δ1
  | r => r
/-- f(e, ..): e in slot i -/
def hotL (g : List D → RD) (i : Nat) (fs : List Den) (δ : En) (s : Option Sl) : RE :=
  match s with
  | some (.va (.exc c)) => bindA (dArgs fs δ) fun ds δ1 => ofD (g (.exc c :: ds)) δ1
  | _ => .bad
def dCallT (g : List D → RD) (i : Nat) (fs : List Den) : Den := fun δ => hotL g i fs δ δ[i]?
def hfn (T : Tab) (k : Nat) : List D → RD := match T.hfns[k]? with
  | some p => p.sem
  | none => fun _ => .bad
mutual
def S.den (T : Tab) : S → SDen
  | .asg tg e => sAsg tg.st (e.den T)
  | .par i j a b => sPar i j [a.den T, b.den T]
  | .own i f => sOwn i (f.den T)
  | .ownC i k es => match T.fns[k]? with
    | some p => sOwnC i (cCall p.sem (es.den T))
    | none => fun _ => .bad
  | .retC k es => match T.fns[k]? with
    | some p => sRetC (cCall p.sem (es.den T))
    | none => fun _ => .bad
  | .exp e => sExp (e.den T)
  | .app i e => sApp i (e.den T)
  | .ext i f => sExt i (f.den T)
  | .par3 i j l a b c => sPar3 i j l [a.den T, b.den T, c.den T]
  | .ins i ix e => sIns i (ix.den T) (e.den T)
  | .augI o i ix e => sAugI o i (ix.den T) (e.den T)
  | .sub i ix e => sSub i (ix.den T) (e.den T)
  | .aug o i e => sAug i o (e.den T)
  | .ret e => sRet (e.den T)
  | .retN => sRetN
  | .ifs c a b => sIf (c.den T) (a.den T) (b.den T)
  | .whl ws n c b => sWhl ws n (c.den T) (b.den T)
  | .for ws tg it b => sFor ws (it.den T) tg.st (b.den T)
  | .pass => sPass
  | .brk => sBrk
  | .cnt => sCnt
  | .retF f => sRetF (f.den T)
  | .retO i => sRetO i
  | .bad => sBad
  | .raise c => sRaise c
  | .tryA b c i u => sTryA T.rs (b.den T) c i (u.den T i)
  | .tryN b hs => sTryN T.rs (b.den T) (hs.den T)
def Ss.den (T : Tab) : Ss → SDen
  | .nil => sNil
  | .cons s ss => sSeq (s.den T) (ss.den T)
  | .nst i tg it l ss => sSeq (sNst i tg.st (it.den T) (l.map fun p => (p.1, p.2.den T)) 3) (ss.den T)
def Su.den (T : Tab) (i : Nat) : Su → SDen
  | .ss ss => ss.den T
  | .retH k es => sRet (dCallT (hfn T k) i (es.den T))
  | .asgH j k es => sAsg (Tg.st (.var j)) (dCallT (hfn T k) i (es.den T))
  | .rtnH k es => sRet (dTup [dCst .non, dCallT (hfn T k) i (es.den T)])
def Hs.den (T : Tab) : Hs → List (Nat × SDen)
  | .nil => []
  | .cons c ss hs => (c, ss.den T) :: hs.den T
end
/-! ### which stores go the other way about -/
def localNames (S : SC) (line : Nat) (ts : List Expr) : List Str := ts.filterMap fun
  | .Name id pos => if S.names.lookup id == some .local && pos.line == line then some id else none
  | _ => none
/-- the tuple's stores are in order: some target is no plain local of the line -/
def inOrder (S : SC) : Expr → Expr → Bool
  | .Tuple ts _ _, .Tuple vs _ _ => !((ts.length == 2 || ts.length == 3) && vs.length == ts.length) || !((localNames S ((ts.head?.map (·.pos.line)).getD 0) ts).length == ts.length)
  | .List _ _, _ => false
  | _, _ => true
def isComp : Expr → Bool
  | .ListComp .. => true
  | _ => false
def asgT (t x : Expr) : Bool :=
  match t with
  | .Name _ _ => notComp x || isComp x
  | .Tuple .. => true
  | _ => false
theorem swSole {t x : Expr} {l : Nat} {env : Env} (h : notComp x = true) : swapsWithSole [t] x l env = pure false := swaps_of h _ _ _
/-! ### forms of statements -/
def getRaise : Stmt → Option (Str × Str × Pos × Nat × Pos × Pos × Pos)
  | .Raise (some (.Call (.Name x px) [.Constant (.str m) j p2] [] p3)) none p => some (x, m, px, j, p2, p3, p)
  | _ => none
theorem getRaise_eq {s : Stmt} {x m : Str} {px p2 p3 p : Pos} {j : Nat} (h : getRaise s = some (x, m, px, j, p2, p3, p)) : s = .Raise (some (.Call (.Name x px) [.Constant (.str m) j p2] [] p3)) none p := by
  unfold getRaise at h
  split at h
  · cases h; rfl
  · cases h
def getTryA : Stmt → Option (List Stmt × Str × Pos × Str × Stmt × List Stmt × Pos × Pos)
  | .Try body [.ExceptHandler (some (.Name x px)) (some n) (s0 :: suite) p2] [] [] p => some (body, x, px, n, s0, suite, p2, p)
  | _ => none
theorem getTryA_eq {s s0 : Stmt} {body suite : List Stmt} {x n : Str} {px p2 p : Pos} (h : getTryA s = some (body, x, px, n, s0, suite, p2, p)) : s = .Try body [.ExceptHandler (some (.Name x px)) (some n) (s0 :: suite) p2] [] [] p := by
  unfold getTryA at h
  split at h
  · cases h; rfl
  · cases h
def getTryN : Stmt → Option (List Stmt × ExceptHandler × List ExceptHandler × Pos)
  | .Try body (h0 :: hds) [] [] p => some (body, h0, hds, p)
  | _ => none
theorem getTryN_eq {s : Stmt} {body : List Stmt} {h0 : ExceptHandler} {hds : List ExceptHandler} {p : Pos} (h : getTryN s = some (body, h0, hds, p)) : s = .Try body (h0 :: hds) [] [] p := by
  unfold getTryN at h
  split at h
  · cases h; rfl
  · cases h
def getH : ExceptHandler → Option (Str × Pos × Stmt × List Stmt × Pos)
  | .ExceptHandler (some (.Name x px)) none (s0 :: suite) p => some (x, px, s0, suite, p)
  | _ => none
theorem getH_eq {s : ExceptHandler} {s0 : Stmt} {suite : List Stmt} {x : Str} {px p : Pos} (h : getH s = some (x, px, s0, suite, p)) : s = .ExceptHandler (some (.Name x px)) none (s0 :: suite) p := by
  unfold getH at h
  split at h
  · cases h; rfl
  · cases h
def getHot : Expr → Option (Str × Pos × Str × Pos × List Expr × Pos)
  | .Call (.Name x px) (.Name y py :: ys) [] p => some (x, px, y, py, ys, p)
  | _ => none
theorem getHot_eq {s : Expr} {x y : Str} {px py p : Pos} {ys : List Expr} (h : getHot s = some (x, px, y, py, ys, p)) : s = .Call (.Name x px) (.Name y py :: ys) [] p := by
  unfold getHot at h
  split at h
  · cases h; rfl
  · cases h
def getRet1 : List Stmt → Option (Expr × Pos)
  | [.Return (some e) p] => some (e, p)
  | _ => none
theorem getRet1_eq {s : List Stmt} {e : Expr} {p : Pos} (h : getRet1 s = some (e, p)) : s = [.Return (some e) p] := by
  unfold getRet1 at h
  split at h
  · cases h; rfl
  · cases h
def getAsg1 : List Stmt → Option (Str × Pos × Expr × Pos)
  | [.Assign [.Name n np] e p] => some (n, np, e, p)
  | _ => none
theorem getAsg1_eq {s : List Stmt} {n : Str} {e : Expr} {np p : Pos} (h : getAsg1 s = some (n, np, e, p)) : s = [.Assign [.Name n np] e p] := by
  unfold getAsg1 at h
  split at h
  · cases h; rfl
  · cases h
def getRtn1 : List Stmt → Option (Nat × Pos × Expr × Nat × Pos × Pos)
  | [.Return (some (.Tuple [.Constant .none j2 p2, e] k2 p3)) p] => some (j2, p2, e, k2, p3, p)
  | _ => none
theorem getRtn1_eq {s : List Stmt} {e : Expr} {j2 k2 : Nat} {p2 p3 p : Pos} (h : getRtn1 s = some (j2, p2, e, k2, p3, p)) : s = [.Return (some (.Tuple [.Constant .none j2 p2, e] k2 p3)) p] := by
  unfold getRtn1 at h
  split at h
  · cases h; rfl
  · cases h
def SC.suite (S : SC) : SC := { S with mode := 2 }
def hotCk (T : Tab) (S : SC) (i k : Nat) (es : Es) (e : Expr) : Bool :=
  match getHot e with
  | some (x, _, y, _, ys, _) => S.gl x && !(x == ("__debug__" : Str)) && S.at i y && (match T.hfns[k]? with
    | some p => decide (p.name = x) && decide (p.ar = ys.length + 1) && p.pin.isNone
    | none => false) && es.ck T S ys
  | none => false
def clsCk (T : Tab) (S : SC) (c : Nat) (x : Str) : Bool := decide (x = exNm c) && S.gl x && decide (c ∈ T.qs) && !(c == 15)
def getNs : Stmt → Option (Str × Pos × Int × Nat × Pos × Pos × Str × Pos × Expr × Pos × Pos)
  | .Expr (.Call (.Attribute (.Subscript (.Name x px) (.Constant (.int j) kk pk) ps) m ap) [a] [] cp) p => some (x, px, j, kk, pk, ps, m, ap, a, cp, p)
  | _ => none
theorem getNs_eq {s : Stmt} {x m : Str} {px pk ps ap cp p : Pos} {j : Int} {kk : Nat} {a : Expr} (h : getNs s = some (x, px, j, kk, pk, ps, m, ap, a, cp, p)) : s = .Expr (.Call (.Attribute (.Subscript (.Name x px) (.Constant (.int j) kk pk) ps) m ap) [a] [] cp) p := by
  unfold getNs at h
  split at h
  · cases h; rfl
  · cases h
def apsCk (T : Tab) (S : SC) (i : Nat) : List (Nat × E) → List Stmt → Bool
  | [], [] => true
  | (k, e) :: l, s :: r => (match getNs s with
    | some (x, _, j, _, _, _, m, ap, a, cp, _) => S.at i x && decide (j = (k : Int)) && decide (m = "append") && (ap.endLine == cp.line) && e.ck T S a && notStar a
    | none => false) && apsCk T S i l r
  | _, _ => false
def getN3 : Stmt → Option (Str × Pos × Pos × Pos × Pos × Pos × Pos)
  | .Assign [.Name x px] (.List [.List [] q0, .List [] q1, .List [] q2] q3) p => some (x, px, q0, q1, q2, q3, p)
  | _ => none
theorem getN3_eq {s : Stmt} {x : Str} {px q0 q1 q2 q3 p : Pos} (h : getN3 s = some (x, px, q0, q1, q2, q3, p)) : s = .Assign [.Name x px] (.List [.List [] q0, .List [] q1, .List [] q2] q3) p := by
  unfold getN3 at h
  split at h
  · cases h; rfl
  · cases h
def getFor : Stmt → Option (Expr × Expr × List Stmt × Pos)
  | .For t y ys [] p => some (t, y, ys, p)
  | _ => none
theorem getFor_eq {s : Stmt} {t y : Expr} {ys : List Stmt} {p : Pos} (h : getFor s = some (t, y, ys, p)) : s = .For t y ys [] p := by
  unfold getFor at h
  split at h
  · cases h; rfl
  · cases h
mutual
def S.ck (T : Tab) (S : SC) : Z.S → Stmt → Bool
  | .asg tg e, .Assign [t] x _ => (S.mode == 0 || (tg.isVar && notComp x)) && tg.ck S.st t && e.ck T S x && inOrder S t x && notStar t && asgT t x
  | .raise c, x => (match getRaise x with
    | some (x, _) => S.mode == 0 && decide (x = exNm c) && S.gl x && decide (c ∈ T.rs)
    | none => false)
  | .tryA b c i u, x => (match getTryA x with
    | some (body, x, _, n, s0, suite, _) => S.mode == 0 && b.ck T S body && clsCk T S c x && decide (S.N[i]? = some n) && decide (S.names.lookup n = some .local) && u.ck T S.suite i (s0 :: suite)
    | none => false)
  | .tryN b hs, x => (match getTryN x with
    | some (body, h0, hds, _) => S.mode == 0 && b.ck T S body && hs.ck T S (h0 :: hds)
    | none => false)
  | .par i j a b, .Assign [.Tuple [.Name x px, .Name y py] _ _] (.Tuple [u, v] _ _) _ => S.mode == 0 && decide (S.N[i]? = some x) && decide (S.N[j]? = some y) && decide (i ≠ j) && decide (S.names.lookup x = some .local) && decide (S.names.lookup y = some .local) &&
      (px.line == py.line) && a.ck T S u && b.ck T S v && notStar u && notStar v && !(foldedForSure 8 u && foldedForSure 8 v) && !(constantsAlone 8 u && constantsAlone 8 v)
  | .par3 i j l a b c, .Assign [.Tuple [.Name x px, .Name y py, .Name z pz] _ _] (.Tuple [u, v, w] _ _) _ => S.mode == 0 && decide (S.N[i]? = some x) && decide (S.N[j]? = some y) && decide (S.N[l]? = some z) && decide (i ≠ j) && decide (i ≠ l) && decide (j ≠ l) &&
      decide (S.names.lookup x = some .local) && decide (S.names.lookup y = some .local) && decide (S.names.lookup z = some .local) && (px.line == py.line) && (px.line == pz.line) && a.ck T S u && b.ck T S v && c.ck T S w && notStar u && notStar v && notStar w &&
      !(foldedForSure 8 u && (foldedForSure 8 v && foldedForSure 8 w)) && !(constantsAlone 8 u && (constantsAlone 8 v && constantsAlone 8 w))
  | .own i f, .Assign [.Name n p] x _ => S.st i n && f.ck T S x && (notComp x || (S.mode == 0 && isComp x))
  | .ownC i k es, .Assign [.Name n _] (.Call (.Name x _) (y :: ys) [] _) _ => S.st i n && (S.mode == 0 && S.gl x && !(x == ("__debug__" : Str)) && (match T.fns[k]? with
    | some p => decide (p.name = x) && decide (p.ar = (y :: ys).length) && p.pin.isNone
    | none => false) && es.ck T S (y :: ys))
  | .retC k es, .Return (some (.Call (.Name x _) (y :: ys) [] _)) _ => S.mode == 0 && S.gl x && !(x == ("__debug__" : Str)) && (match T.fns[k]? with
    | some p => decide (p.name = x) && decide (p.ar = (y :: ys).length) && p.pin.isNone
    | none => false) && es.ck T S (y :: ys)
  | .exp e, .Expr x _ => e.ck T S x && notComp x
  | .ext i f, .Expr (.Call (.Attribute (.Name n _) m ap) [x] [] cp) _ => S.at i n && decide (m = "extend") && (ap.endLine == cp.line) && f.ck T S x && notStar x
  | .ins i ix e, .Expr (.Call (.Attribute (.Name n _) m ap) [y, x] [] cp) _ => S.at i n && decide (m = "insert") && (ap.endLine == cp.line) && ix.ck T S y && notStar y && e.ck T S x && notStar x
  | .augI o i ix e, .AugAssign (.Subscript (.Name n _) y _) op x _ => S.at i n && ix.ck T S y && notSlice y && decide (op = augOp o) && e.ck T S x
  | .app i e, .Expr (.Call (.Attribute (.Name n _) m ap) [x] [] cp) _ => S.at i n && decide (m = "append") && (ap.endLine == cp.line) && e.ck T S x && notStar x
  | .sub i ix e, .Assign [.Subscript (.Name n _) y _] x _ => S.at i n && ix.ck T S y && notSlice y && e.ck T S x && notComp x
  | .aug o i e, .AugAssign (.Name n _) op x _ => S.st i n && decide (op = augOp o) && e.ck T S x
  | .ret e, .Return (some x) _ => e.ck T S x
  | .retN, .Return none _ => true
  | .ifs c a b, .If x xs ys _ => c.ck T S x && a.ck T S xs && b.ck T S ys
  | .whl _ _ c b, .While x xs [] _ => S.mode == 0 && c.ck T S x && b.ck T S xs
  | .for _ tg it b, .For t x xs [] _ => S.mode == 0 && tg.ck S.st t && it.ck T S x && it.tgk t && notSet x && b.ck T S xs
  | .pass, .Pass _ => true
  | .brk, .Break _ => true
  | .cnt, .Continue _ => true
  | .retF f, .Return (some x) _ => f.ck T S x
  | .retO i, .Return (some (.Name n _)) _ => S.at i n
  | .bad, _ => true
  | _, _ => false
def Ss.ck (T : Tab) (S : SC) : Ss → List Stmt → Bool
  | .nil, [] => true
  | .cons s ss, x :: xs => s.ck T S x && ss.ck T S xs
  | .nst i tg it l ss, x1 :: x2 :: xs => (match getN3 x1, getFor x2 with
    | some (x, _), some (t, y, ys, _) => S.mode == 0 && S.st i x && tg.ck S.st t && it.ck T S y && notSet y && decide (i ∉ tg.slots) && apsCk T S i l ys
    | _, _ => false) && ss.ck T S xs
  | _, _ => false
def Su.ck (T : Tab) (S : SC) (i : Nat) : Su → List Stmt → Bool
  | .ss ss, xs => ss.ck T S xs
  | .retH k es, xs => (match getRet1 xs with
    | some (e, _) => hotCk T S i k es e
    | none => false)
  | .asgH j k es, xs => (match getAsg1 xs with
    | some (n, _, e, _) => S.st j n && hotCk T S i k es e
    | none => false)
  | .rtnH k es, xs => (match getRtn1 xs with
    | some (_, _, e, _) => hotCk T S i k es e
    | none => false)
def Hs.ck (T : Tab) (S : SC) : Hs → List ExceptHandler → Bool
  | .nil, [] => true
  | .cons c ss hs, h :: r => (match getH h with
    | some (x, _, s0, suite, _) => clsCk T S c x && ss.ck T S.suite (s0 :: suite)
    | none => false) && hs.ck T S r
  | _, _ => false
end
structure OkS (T : Tab) (S : SC) (X : Cx) (W : Wi) : Prop extends OkX T S X W where
  ps : PassesOwn (model X.prog X.w) X.A X.env X.xe
  fn : ∀ x, X.fn x = true
  ex : X.ex = []
  stk : X.stack = X.env :: X.outer
  frm : X.env.frame = some X.env.locals
  hcall : S.mode = 0 → ∀ (k : Nat) (p : Fd), T.hfns[k]? = some p → ReadyH X W.ct p
section
variable {T : Tab} {S : SC} {X : Cx} {W : Wi}
theorem OkS.nm (O : OkS T S X W) {i : Nat} {x : Str} {p : Pos} (h : S.st i x = true) : PG X (.Name x p) (gName i) := by
  obtain ⟨h1, h2⟩ := of_and h
  exact pg_name O.nd (by rw [O.N]; exact of_decide_eq_true h1) (O.toOkX.loc h2) (.inl (O.fn x))
theorem OkX.blockKind (O : OkX T S X W) : X.env.blockKind = .function := by
  unfold Env.blockKind
  rw [O.kind]
  rfl
theorem swIn {ts vs : List Expr} {env : Env} (hb : env.blockKind = .function) (c1 : ((ts.length == 2 || ts.length == 3) && vs.length == ts.length) = true) : ((!(ts.length == 2 || ts.length == 3)) || vs.length != ts.length || env.blockKind != .function) = false := by
  rw [Bool.and_eq_true] at c1
  rw [hb, c1.1]
  have : (vs.length != ts.length) = false := by rw [bne, c1.2]; rfl
  rw [this]
  rfl
theorem swOut {ts vs : List Expr} {env : Env} (c1 : ¬ ((ts.length == 2 || ts.length == 3) && vs.length == ts.length) = true) : ((!(ts.length == 2 || ts.length == 3)) || vs.length != ts.length || env.blockKind != .function) = true := by
  cases q : (ts.length == 2 || ts.length == 3) with
  | false => rfl
  | true =>
    rw [q] at c1
    have : (vs.length != ts.length) = true := by
      rw [bne]
      cases q2 : (vs.length == ts.length) with
      | false => rfl
      | true => rw [q2] at c1; exact absurd rfl c1
    rw [this]; rfl
theorem fm_loc (line : Nat) (l : List Expr) (φ : Expr → Option Str) (h1 : ∀ id pos, φ (.Name id pos) = if (S.names.lookup id == some .local && pos.line == line) = true then some id else none)
    (h2 : ∀ x, (∀ id pos, x ≠ .Name id pos) → φ x = none) : l.filterMap φ = localNames S line l := by
  unfold localNames
  congr 1
  funext x
  cases x with
  | Name id pos => exact h1 id pos
  | _ => exact h2 _ (fun _ _ z => by cases z)
theorem any_star (l : List Expr) (φ : Expr → Bool) (h1 : ∀ x, notStar x = true → φ x = false) (h : ∀ x ∈ l, notStar x = true) : l.any φ = false := by
  rw [List.any_eq_false]
  intro x hx
  rw [h1 x (h x hx)]
  exact Bool.false_ne_true
theorem swNone (O : OkX T S X W) {t x : Expr} (h : inOrder S t x = true) : swappedStores [t] x X.env = pure none := by
  cases t with
  | Tuple ts k p =>
    cases x with
    | Tuple vs k2 p2 =>
      have h : (!((ts.length == 2 || ts.length == 3) && vs.length == ts.length) || !((localNames S ((ts.head?.map (·.pos.line)).getD 0) ts).length == ts.length)) = true := h
      unfold swappedStores
      by_cases c1 : ((ts.length == 2 || ts.length == 3) && vs.length == ts.length) = true
      · rw [c1] at h
        have n1 := swIn O.blockKind c1
        have e := fm_loc (S := S) ((ts.head?.map (·.pos.line)).getD 0) ts
        simp only [n1]
        split
        · rfl
        · split
          · rfl
          · split
            · rfl
            · rename_i z
              exfalso
              apply z
              rw [Bool.or_eq_true]
              left
              rw [e]
              · rw [bne]; exact h
              · intro id pos
                show (if (X.env.scope.names.lookup id == some NameKind.local && _) = true then _ else _) = _
                rw [O.names]
              · intro x hx
                cases x <;> first | rfl | exact absurd rfl (hx _ _)
      · have n1 := swOut (env := X.env) c1
        simp only [n1]
        split
        · rfl
        · rename_i z
          exact absurd trivial z
    | _ => rfl
  | List ts p => cases h
  | _ => rfl
theorem swPar (O : OkX T S X W) {x y : Str} {px py p p2 : Pos} {k k2 : Nat} {u v : Expr} (hx : S.names.lookup x = some .local) (hy : S.names.lookup y = some .local) (hl : (px.line == py.line) = true) (hne : x ≠ y) (nu : notStar u = true) (nv : notStar v = true)
    (f1 : (foldedForSure 8 u && foldedForSure 8 v) = false) (f2 : (constantsAlone 8 u && constantsAlone 8 v) = false) : swappedStores [.Tuple [.Name x px, .Name y py] k p] (.Tuple [u, v] k2 p2) X.env = pure (some [x, y]) := by
  have hl' : px.line = py.line := by simpa using hl
  have nm : localNames S px.line [Expr.Name x px, Expr.Name y py] = [x, y] := by
    have e1 : (S.names.lookup x == some NameKind.local && px.line == px.line) = true := by rw [hx]; simp
    have e2 : (S.names.lookup y == some NameKind.local && py.line == px.line) = true := by rw [hy, hl']; simp
    unfold localNames
    rw [List.filterMap_cons, List.filterMap_cons, List.filterMap_nil]
    simp only [e1, e2]
    rfl
  have ed : ([x, y].eraseDups.length != [x, y].length) = false := by
    have : (x == y) = false := by simpa using hne
    simp [List.eraseDups_cons, hne, this, Ne.symm hne]
  have e := fm_loc (S := S) px.line [Expr.Name x px, Expr.Name y py]
  have st := any_star [u, v]
  unfold swappedStores
  have n1 := swIn (ts := [Expr.Name x px, Expr.Name y py]) (vs := [u, v]) O.blockKind rfl
  have a1 : ∀ id pos, (fun z : Expr => match z with
      | .Name id pos => if (X.env.kindOf id == some .local && pos.line == px.line) = true then some id else none
      | _ => none) (.Name id pos) = if (S.names.lookup id == some .local && pos.line == px.line) = true then some id else none := fun id pos => by
    show (if (X.env.scope.names.lookup id == some NameKind.local && _) = true then _ else _) = _
    rw [O.names]
  simp only [n1]
  have hd : (Option.map (fun x : Expr => x.pos.line) [Expr.Name x px, Expr.Name y py].head?).getD 0 = px.line := rfl
  simp only [hd]
  split
  · rename_i z; cases z
  · split
    · rename_i z
      rw [st] at z
      · cases z
      · intro x h; cases x <;> first | rfl | cases h
      · intro x h
        simp only [List.mem_cons, List.not_mem_nil, or_false] at h
        rcases h with h | h
        · rw [h]; exact nu
        · rw [h]; exact nv
    · split
      · rename_i z
        rw [e] at z
        · rw [nm, ed] at z
          rw [Bool.or_false, bne] at z
          cases z
        · intro id pos
          show (if (X.env.scope.names.lookup id == some NameKind.local && _) = true then _ else _) = _
          rw [O.names]
        · intro x hx
          cases x <;> first | rfl | exact absurd rfl (hx _ _)
      · split
        · rename_i z
          rw [List.all_cons, List.all_cons, List.all_nil, Bool.and_true, f1] at z
          cases z
        · split
          · rename_i z
            rw [List.all_cons, List.all_cons, List.all_nil, Bool.and_true, f2] at z
            cases z
          · rw [e]
            · rw [nm]
            · intro id pos
              show (if (X.env.scope.names.lookup id == some NameKind.local && _) = true then _ else _) = _
              rw [O.names]
            · intro x hx
              cases x <;> first | rfl | exact absurd rfl (hx _ _)
theorem swPar3 (O : OkX T S X W) {x y z0 : Str} {px py pz p p2 : Pos} {k k2 : Nat} {u v w0 : Expr} (hx : S.names.lookup x = some .local) (hy : S.names.lookup y = some .local) (hz : S.names.lookup z0 = some .local) (hl : (px.line == py.line) = true) (hlz : (px.line == pz.line) = true) (hne : x ≠ y) (hne2 : x ≠ z0) (hne3 : y ≠ z0) (nu : notStar u = true) (nv : notStar v = true) (nw : notStar w0 = true)
    (f1 : (foldedForSure 8 u && (foldedForSure 8 v && foldedForSure 8 w0)) = false) (f2 : (constantsAlone 8 u && (constantsAlone 8 v && constantsAlone 8 w0)) = false) : swappedStores [.Tuple [.Name x px, .Name y py, .Name z0 pz] k p] (.Tuple [u, v, w0] k2 p2) X.env = pure (some [x, y, z0]) := by
  have hl' : px.line = py.line := by simpa using hl
  have hlz' : px.line = pz.line := by simpa using hlz
  have nm : localNames S px.line [Expr.Name x px, Expr.Name y py, Expr.Name z0 pz] = [x, y, z0] := by
    have e1 : (S.names.lookup x == some NameKind.local && px.line == px.line) = true := by rw [hx]; simp
    have e2 : (S.names.lookup y == some NameKind.local && py.line == px.line) = true := by rw [hy, hl']; simp
    have e3 : (S.names.lookup z0 == some NameKind.local && pz.line == px.line) = true := by rw [hz, hlz']; simp
    unfold localNames
    rw [List.filterMap_cons, List.filterMap_cons, List.filterMap_cons, List.filterMap_nil]
    simp only [e1, e2, e3]
    rfl
  have ed : ([x, y, z0].eraseDups.length != [x, y, z0].length) = false := by
    have h1 : (x == y) = false := by simpa using hne
    have h2 : (x == z0) = false := by simpa using hne2
    have h3 : (y == z0) = false := by simpa using hne3
    have h4 : (y == x) = false := by simpa using Ne.symm hne
    have h5 : (z0 == x) = false := by simpa using Ne.symm hne2
    have h6 : (z0 == y) = false := by simpa using Ne.symm hne3
    simp [List.eraseDups_cons, h1, h2, h3, h4, h5, h6, hne, hne2, hne3, Ne.symm hne, Ne.symm hne2, Ne.symm hne3]
  have e := fm_loc (S := S) px.line [Expr.Name x px, Expr.Name y py, Expr.Name z0 pz]
  have st := any_star [u, v, w0]
  unfold swappedStores
  have n1 := swIn (ts := [Expr.Name x px, Expr.Name y py, Expr.Name z0 pz]) (vs := [u, v, w0]) O.blockKind rfl
  have a1 : ∀ id pos, (fun z : Expr => match z with
      | .Name id pos => if (X.env.kindOf id == some .local && pos.line == px.line) = true then some id else none
      | _ => none) (.Name id pos) = if (S.names.lookup id == some .local && pos.line == px.line) = true then some id else none := fun id pos => by
    show (if (X.env.scope.names.lookup id == some NameKind.local && _) = true then _ else _) = _
    rw [O.names]
  simp only [n1]
  have hd : (Option.map (fun x : Expr => x.pos.line) [Expr.Name x px, Expr.Name y py, Expr.Name z0 pz].head?).getD 0 = px.line := rfl
  simp only [hd]
  split
  · rename_i z; cases z
  · split
    · rename_i z
      rw [st] at z
      · cases z
      · intro x h; cases x <;> first | rfl | cases h
      · intro x h
        simp only [List.mem_cons, List.not_mem_nil, or_false] at h
        rcases h with h | h | h
        · rw [h]; exact nu
        · rw [h]; exact nv
        · rw [h]; exact nw
    · split
      · rename_i z
        rw [e] at z
        · rw [nm, ed] at z
          rw [Bool.or_false, bne] at z
          cases z
        · intro id pos
          show (if (X.env.scope.names.lookup id == some NameKind.local && _) = true then _ else _) = _
          rw [O.names]
        · intro x hx
          cases x <;> first | rfl | exact absurd rfl (hx _ _)
      · split
        · rename_i z
          rw [List.all_cons, List.all_cons, List.all_cons, List.all_nil, Bool.and_true, f1] at z
          cases z
        · split
          · rename_i z
            rw [List.all_cons, List.all_cons, List.all_cons, List.all_nil, Bool.and_true, f2] at z
            cases z
          · rw [e]
            · rw [nm]
            · intro id pos
              show (if (X.env.scope.names.lookup id == some NameKind.local && _) = true then _ else _) = _
              rw [O.names]
            · intro x hx
              cases x <;> first | rfl | exact absurd rfl (hx _ _)
/-- does a comprehension's value go to its name with the stores exchanged? -/
def xch (S : SC) (x : Str) (p : Pos) (scope : Scope) (pos : Pos) : Bool := decide (S.names.lookup x = some .local) && (p.line == pos.line) && !(scope.names.any fun (n, k) => n == x && (k == .local || k == .cell))
theorem swComp (O : OkX T S X W) {elt : Expr} {gs : List Comprehension} {scope : Scope} {pos p : Pos} {x : Str} {l : Nat} : swapsWith (.ListComp elt gs scope pos) (some (.Name x p)) l X.env = pure (xch S x p scope pos) := by
  unfold swapsWith xch
  have kx : X.env.kindOf x = S.names.lookup x := by unfold Env.kindOf; rw [O.names]
  simp only [O.blockKind, kx, Expr.pos]
  have e : (S.names.lookup x == some NameKind.local) = decide (S.names.lookup x = some NameKind.local) := by
    cases h : S.names.lookup x with
    | none => rfl
    | some k => cases k <;> rfl
  rw [e]
  rfl
/-- a comprehension's value to a name, whichever way its stores go -/
theorem compAsg (O : OkS T S X W) (h0 : S.mode = 0) {i : Nat} {n : Str} {p spos : Pos} {elt : E} {vs : List Nat} {tg : Tg} {it : I} {t : Op} {x : Expr} (hn : S.st i n = true) (h : (F.comp elt vs tg it t).ck T S x = true) :
    ∃ te, PS X (.Assign [.Name n p] x spos) (tAsg te (gName i)) ∧ ∀ σ H Q, tF X.K W ((F.comp elt vs tg it t).den T) σ H Q → te σ H Q := by
  obtain ⟨y, z, ifs, scope, pos, x1, rfl, C, wi⟩ := compOk_of (fun O x h => (elt.ok O x h).1) (fun O tg x h h' => it.ok O x h h') (fun O x h => (t.ok O x h).1) O.toOkX x h
  have e : (ownOf S vs).map (·.2) = vs := by
    unfold ownOf
    rw [List.map_map]
    exact List.map_id' _
  have rd : ∀ σ H Q, tF X.K W ((F.comp elt vs tg it t).den T) σ H Q → tLc (wiI X.K W it.ow (it.den T)) (gM X.K tg.st tg.slots) (tO X.K (Wi.none W.ct) (t.den T)) (tM X.K (Wi.none W.ct) (elt.den T)) ((ownOf S vs).map (·.2)) σ H Q := fun σ H Q q => comp_readI C.hv (by rw [e]; exact q)
  obtain ⟨h1, h2⟩ := of_and hn
  have sw := swComp O.toOkX (elt := x1) (gs := [⟨y, z, ifs, 0⟩]) (scope := scope) (pos := pos) (p := p) (x := n) (l := spos.line)
  cases c : xch S n p scope pos with
  | true =>
    rw [c] at sw
    have c2 := c
    unfold xch at c2
    obtain ⟨c2, _⟩ := of_and c2
    obtain ⟨c2, _⟩ := of_and c2
    exact ⟨_, ps_setLc (O.calm h0) O.nd (by rw [O.N]; exact of_decide_eq_true h1) (by rw [O.names]; exact of_decide_eq_true c2) sw wi C.ok C.tg C.tt C.el C.fs, rd⟩
  | false =>
    rw [c] at sw
    exact ⟨_, ps_set O.nd (by rw [O.N]; exact of_decide_eq_true h1) (O.toOkX.loc h2) (pe_lc (O.calm h0) O.nd wi C.ok C.tg C.tt C.el C.fs) sw (.inl (O.fn n)), rd⟩
theorem comp_form {e : E} {x : Expr} (h : e.ck T S x = true) (hc : isComp x = true) : ∃ elt vs tg it t, e = .fr (.comp elt vs tg it t) ∧ (F.comp elt vs tg it t).ck T S x = true := by
  cases x with
  | ListComp x1 gs scope p =>
    cases e with
    | fr f =>
      cases f with
      | comp elt vs tg it t => exact ⟨elt, vs, tg, it, t, rfl, h⟩
      | _ => cases h
    | _ => cases h
  | _ => cases hc
theorem comp_formF {f : F} {x : Expr} (h : f.ck T S x = true) (hc : isComp x = true) : ∃ elt vs tg it t, f = .comp elt vs tg it t := by
  cases x with
  | ListComp x1 gs scope p =>
    cases f with
    | comp elt vs tg it t => exact ⟨elt, vs, tg, it, t, rfl⟩
    | _ => cases h
  | _ => cases hc
theorem isComp_not {x : Expr} (h : isComp x = true) : notComp x = false := by
  cases x <;> first | rfl | cases h
theorem swTup (ts : List Expr) (k : Nat) {p : Pos} {x : Expr} {l : Nat} {env : Env} : swapsWithSole [.Tuple ts k p] x l env = pure false := by
  cases x <;> rfl
theorem nstar_asg {t : Expr} (h : notStar t = true) : (assignEach [t] X.env).map (·.2) = [assign t X.env] := by
  cases t <;> first | rfl | cases h
end
section
variable {T : Tab} {S : SC} {X : Cx} {W : Wi}
theorem OkS.suite (O : OkS T S X W) (a : Addr) (pn : List (Addr × Obj)) : OkS T S.suite (X.suite a pn) (Wi.none W.ct) where
  N := O.N
  nd := O.nd
  names := O.names
  kind := O.kind
  calm := fun e => absurd (show (2 : Nat) = 0 from e) (by decide)
  hot := fun e => absurd (show (2 : Nat) = 1 from e) (by decide)
  hu := O.hu
  tk := takesN
  call := fun e => absurd (show (2 : Nat) = 0 from e) (by decide)
  ct := O.ct
  exc := O.exc
  ask := O.ask
  bi := O.bi
  glo := O.glo
  ps := PassesOwn.never
  fn := O.fn
  ex := O.ex
  stk := O.stk
  frm := O.frm
  hcall := fun e => absurd (show (2 : Nat) = 0 from e) (by decide)
theorem OkS.tr (O : OkS T S X W) {w : WX} {pn : List (Addr × Obj)} {xe : Value → Shared → Prop} (tk : L2N.Takes (X.tr pn xe) w) (ps : PassesOwn (model X.prog X.w) X.A X.env xe) : OkS T S (X.tr pn xe) ⟨w, W.ct⟩ where
  N := O.N
  nd := O.nd
  names := O.names
  kind := O.kind
  calm := O.calm
  hot := O.hot
  hu := O.hu
  tk := tk
  call := O.call
  ct := O.ct
  exc := O.exc
  ask := O.ask
  bi := O.bi
  glo := O.glo
  ps := ps
  fn := O.fn
  ex := O.ex
  stk := O.stk
  frm := O.frm
  hcall := O.hcall
theorem clsNames (O : OkX T S X W) {c : Nat} {x : Str} (h : clsCk T S c x = true) : Names X x (.ref (ctOf X.K c)) ∧ c ∈ T.qs ∧ c ≠ 15 := by
  obtain ⟨h, h4⟩ := of_and h
  obtain ⟨h, h3⟩ := of_and h
  obtain ⟨h1, h2⟩ := of_and h
  have e : x = exNm c := of_decide_eq_true h1
  have m : c ∈ T.qs := of_decide_eq_true h3
  have n : c ≠ 15 := by simpa using h4
  subst e
  obtain ⟨k1, k2⟩ := O.ask c m n
  exact ⟨⟨O.gl h2, k2, .inl k1⟩, m, n⟩
theorem Rl.clear {K : PySem.W.Frag} {G : Gh} {δ : En} {σ : L2.St} {H0 H : Hp} {i : Nat} (R : Rl K G δ σ H0 H) (np : ∀ o, δ[i]? ≠ some (.pi o)) : Rl K G (δ.set i .no) (σ.set i none) H0 H := by
  have key : ∀ {j : Nat} {s : Sl}, (δ.set i .no)[j]? = some s → isOwn s = true → i ≠ j ∧ δ[j]? = some s := fun {j s} e o => by
    by_cases hj : i = j
    · subst hj
      by_cases hl : i < δ.length
      · rw [List.getElem?_set_self hl] at e; cases e; cases o
      · rw [List.getElem?_eq_none (by simpa using hl)] at e; cases e
    · rw [List.getElem?_set_ne hj] at e; exact ⟨hj, e⟩
  refine ⟨R.hs, R.he, R.hf, R.hn, by rw [List.length_set, List.length_set, R.len], fun j s x a b => ?_, fun j k s t a ne e1 e2 o1 o2 f1 f2 => ?_, fun j a hp => ?_⟩
  · by_cases hj : i = j
    · subst hj
      by_cases hl : i < δ.length
      · rw [List.getElem?_set_self hl] at a; cases a; trivial
      · rw [List.getElem?_eq_none (by simpa using hl)] at a; cases a
    · rw [List.getElem?_set_ne hj] at a b
      exact R.sl j s x a b
  · obtain ⟨n1, d1⟩ := key e1 o1
    obtain ⟨n2, d2⟩ := key e2 o2
    rw [List.getElem?_set_ne n1] at f1
    rw [List.getElem?_set_ne n2] at f2
    exact R.dj j k s t a ne d1 d2 o1 o2 f1 f2
  · obtain ⟨o, e1, e2⟩ := R.pn j a hp
    have hj : i ≠ j := fun z => np o (z ▸ e1)
    exact ⟨o, by rw [List.getElem?_set_ne hj]; exact e1, by rw [List.getElem?_set_ne hj]; exact e2⟩
theorem clrS_ok {K : PySem.W.Frag} {W : Wi} {G : Gh} {H0 : Hp} {i : Nat} {δ : En} {k : En → RS} {D : Ends} (h : PoS K W G H0 (clrS i δ k) D) : (∀ o, δ[i]? ≠ some (.pi o)) ∧ PoS K W G H0 (k (δ.set i .no)) D := by
  unfold clrS at h
  split at h
  · exact h.elim
  · rename_i n
    exact ⟨fun o e => n o e, h⟩
/-- the suite's end, and the try's -/
theorem catchS_ok {K : PySem.W.Frag} {W : Wi} {ct : Nat → Addr} {G : Gh} {H0 : Hp} {i : Nat} {r : RS} {D : Ends} (h : PoS K W G H0 (catchS i r) D) :
    PoS K (Wi.none ct) G H0 r { D with nx := fun σ' H' => D.nx (σ'.set i none) H', bk := fun σ' H' => D.bk (σ'.set i none) H', ct := fun σ' H' => D.ct (σ'.set i none) H' } := by
  cases r with
  | nx δ => obtain ⟨np, h⟩ := clrS_ok (k := .nx) h; exact fun σ' H1 H' R s => h _ H1 H' (R.clear np) s
  | bk δ => obtain ⟨np, h⟩ := clrS_ok (k := .bk) h; exact fun σ' H1 H' R s => h _ H1 H' (R.clear np) s
  | ct δ => obtain ⟨np, h⟩ := clrS_ok (k := .ct) h; exact fun σ' H1 H' R s => h _ H1 H' (R.clear np) s
  | rt d δ => exact h
  | ro o δ => exact h
  | rz c δ => exact h.elim
  | bad => exact h
theorem noRz_ok {K : PySem.W.Frag} {W : Wi} {ct : Nat → Addr} {G : Gh} {H0 : Hp} {r : RS} {D : Ends} (h : PoS K W G H0 (noRz r) D) : PoS K (Wi.none ct) G H0 r D := by
  cases r with
  | rz c δ => exact h.elim
  | _ => exact h
/-- the exception, locked, to its name -/
theorem Rl.setX {K : PySem.W.Frag} {G : Gh} {δ : En} {σ : L2.St} {H0 H : Hp} {i c : Nat} {a : Addr} {oe : Obj} (R : Rl K G δ σ H0 H) (na : H a = none) (x : ExcO K c oe) (np : ∀ o, δ[i]? ≠ some (.pi o)) :
    Rl K G (δ.set i (.va (.exc c))) (σ.set i (some (.ref a))) (upd H0 a (exT oe)) (upd H a (exT oe)) :=
  (R.grow (Gr.new R.hs na)).set_va (.exc upd_same x) np
theorem ExIs.plain {K : PySem.W.Frag} {ct : Nat → Addr} {e : Exc} {cls : Value} {dd : Option Addr} {H : Hp} (x : ExIs K ct e cls dd H) (h : e.pl.isEmpty = true) : cls = .ref (ct e.c) ∧ dd = none := by
  obtain ⟨h1, h2 | ⟨h2, _⟩⟩ := x
  · exact ⟨h1, h2.2⟩
  · exact absurd (List.isEmpty_iff.mp h) h2
/-- where nothing is raised, the wish is no matter -/
theorem PoS.other {K : PySem.W.Frag} {W : Wi} {w : WX} {G : Gh} {H0 : Hp} {r : RS} {D : Ends} (n : ∀ e δ1, r ≠ .rz e δ1) (h : PoS K W G H0 r D) : PoS K ⟨w, W.ct⟩ G H0 r D := by
  cases r with
  | rz c δ => exact absurd rfl (n c δ)
  | _ => exact h
theorem isEmpty_nil {e : Exc} (h : e.pl.isEmpty = true) : e.pl = [] := List.isEmpty_iff.mp h
/-- the caught one, in the wish of the one clause -/
theorem tryA_wish (O : OkX T S X W) {D : Ends} {G : Gh} {H0 : Hp} {δ1 : En} {c i : Nat} {fu : SDen} {e : Exc} {ts : Addr → TS} (hc : c ∈ T.qs) (hn : c ≠ 15) (hts : ∀ a D σ H, σ[i]? = some (some (V.ref a)) ∧ sM X.K (Wi.none W.ct) fu D σ H → ts a D σ H)
    (q : PoS X.K W G H0 (tryA1 T.rs c i fu e δ1) D) : PoS X.K ⟨wTry X.K (.ref (ctOf X.K c)) i ts W.w D, W.ct⟩ G H0 (.rz e δ1) D := by
  intro cls dd σ' H1 H' R s x
  unfold tryA1 at q
  split at q
  · rename_i hp
    obtain ⟨p1, p2⟩ := of_and hp
    obtain ⟨e1, e2⟩ : cls = .ref (ctOf X.K e.c) ∧ dd = none := by rw [← O.ct]; exact ExIs.plain x p1
    have kx := O.exc e.c (by simpa using p2)
    have m := kx.ex c hc hn
    unfold clsV at m
    rw [if_neg hn] at m
    refine ⟨subE e.c c, by rw [e1]; exact m, fun hb => ?_, fun hb => ⟨e2, fun a oe na o1 o2 o3 => ?_⟩⟩
    · rw [hb] at q
      exact q cls dd σ' H1 H' R s x
    · rw [hb] at q
      have q : PoS X.K W G H0 (Z.setX i e.c δ1 fun δ1 => catchS i (fu δ1)) D := q
      unfold Z.setX at q
      split at q
      · exact q.elim
      · exact q.elim
      · rename_i np es
        have hl : i < σ'.length := by rw [← R.len]; exact (List.getElem?_eq_some_iff.mp es).1
        have np : ∀ o, δ1[i]? ≠ some (.pi o) := fun o z => by rw [es] at z; cases z; exact np _ rfl
        have R2 := R.setX (c := e.c) na ⟨by rw [o1, e1], o2, o3⟩ np
        refine hts a _ _ _ ⟨?_, G, _, _, R2, (catchS_ok (ct := W.ct) q).up (s.trans (Gr.new (o := exT oe) R.hs na).h0)⟩
        exact List.getElem?_set_self hl
  · exact q.elim
theorem pickH_ok (O : OkX T S X W) {D : Ends} {G : Gh} {H0 : Hp} {δ1 : En} {e : Exc} {l : List (Value × (Addr → Value → Option Addr → TS))} {hs : List (Nat × SDen)} (he : e.c ∈ T.rs) (hp : e.pl.isEmpty = true)
    (hl : Paired (fun (p : Value × (Addr → Value → Option Addr → TS)) (h : Nat × SDen) => p.1 = .ref (ctOf X.K h.1) ∧ h.1 ∈ T.qs ∧ h.1 ≠ 15 ∧ ∀ a cls d D σ H, sM X.K (Wi.none W.ct) h.2 D σ H → p.2 a cls d D σ H) l hs)
    (q : PoS X.K W G H0 (pickH e δ1 hs) D) : PoS X.K ⟨wMany X.K W.w D l, W.ct⟩ G H0 (.rz e δ1) D := by
  induction hl with
  | nil => exact q
  | @cons p h l hs r _ ih =>
    obtain ⟨c, ts⟩ := p
    obtain ⟨k, f⟩ := h
    obtain ⟨r1, r2, r3, r4⟩ := r
    dsimp only at r1 r2 r3 r4
    subst r1
    intro cls dd σ' H1 H' R s x
    obtain ⟨e1, e2⟩ : cls = .ref (ctOf X.K e.c) ∧ dd = none := by rw [← O.ct]; exact ExIs.plain x hp
    have m := (O.exc e.c he).ex k r2 r3
    unfold clsV at m
    rw [if_neg r3] at m
    have q : PoS X.K W G H0 (if subE e.c k then noRz (f δ1) else pickH e δ1 hs) D := q
    refine ⟨subE e.c k, by rw [e1]; exact m, fun hb a _ => ?_, fun hb => ?_⟩
    · rw [hb] at q
      exact r4 a _ _ _ _ _ ⟨G, δ1, H1, R, (noRz_ok (ct := W.ct) q).up s⟩
    · rw [hb] at q
      exact ih q cls dd σ' H1 H' R s x
theorem rtn_eq (f : Den) (δ : En) : sRet (dTup [dCst .non, f]) δ = (match f δ with
    | .ok d δ1 => .rt (.tup [.non, d]) δ1
    | .rz c δ1 => .rz c δ1
    | .bad => .bad) := by
  cases e : f δ <;> simp [sRet, dTup, dArgs, dCst, bindES, bindA, consA, bindAA, e]
/-- f(e, ..) in the suite of e -/
theorem me_callT (O : OkS T S X W) (h0 : S.mode = 0) {a : Addr} {pn : List (Addr × Obj)} {i k : Nat} {es : Es} {x : Expr} (hes : ∀ (ys : List Expr), es.ck T S.suite ys = true → AllG (X.suite a pn) (Wi.none W.ct) ys (es.den T)) (h : hotCk T S.suite i k es x = true) :
    PE (X.suite a pn) x (fun σ H Q => σ[i]? = some (some (V.ref a)) ∧ tM X.K (Wi.none W.ct) (dCallT (hfn T k) i (es.den T)) σ H Q) ∧ notComp x = true ∧ notStar x = true := by
  unfold hotCk at h
  split at h
  · rename_i n px y py ys p eg
    have ex := getHot_eq eg
    subst ex
    obtain ⟨h, h5⟩ := of_and h
    obtain ⟨h, h4⟩ := of_and h
    obtain ⟨h, h3⟩ := of_and h
    obtain ⟨h1, h2⟩ := of_and h
    have Os := O.suite a pn
    have A := hes ys h5
    refine ⟨?_, rfl, rfl⟩
    have st := starEach_of (x := .Name y py) rfl ys (X.suite a pn).env
    have pl := A.plain (pos := p)
    cases e : T.hfns[k]? with
    | none => rw [e] at h4; cases h4
    | some f =>
      rw [e] at h4
      obtain ⟨h4, h8⟩ := of_and h4
      obtain ⟨h6, h7⟩ := of_and h4
      have e6 : f.name = n := of_decide_eq_true h6
      have e7 : f.ar = ys.length + 1 := of_decide_eq_true h7
      subst e6
      obtain ⟨lv, fa, fd, ps, F, hr, hm, hk, hb⟩ := O.hcall h0 k f e
      have hf : hfn T k = f.sem := by unfold hfn; rw [e]
      refine PE_imp (pe_callT (X := X.suite a pn) F ⟨hr.dp, hr.un⟩ (Os.toOkX.gl h1) hm hk hb (pa_cons (Os.toOkX.at h3) A.args st) (by rw [Bool.not_eq_true'] at h2; exact h2) st pl) fun σ H Q ⟨hσ, G, δ, H0, R, q⟩ => ⟨.ref a, hσ, G, δ, H0, R, ?_⟩
      unfold dCallT hotL at q
      split at q
      · rename_i c ed
        obtain ⟨v, e1, rv⟩ := R.va_at ed
        rw [hσ] at e1
        cases e1
        cases rv with
        | exc ha xo =>
          rename_i oe
          obtain ⟨o1, o2, fs, o3, o4⟩ := xo
          cases eA : dArgs (es.den T) δ with
          | bad => rw [eA] at q; exact q.elim
          | rz z δ1 => rw [eA] at q; exact q
          | ok ds δ1 =>
            rw [eA, hf] at q
            have q : PoE X.K (Wi.none W.ct) G σ H0 (ofD (f.sem (.exc c :: ds)) δ1) Q := q
            intro vs H1 H' R1 s1 r1
            refine ⟨⟨a, oe, fs, rfl, R1.hs a _ (s1 a _ ha), o3, o4⟩, H1, .exc c :: ds, R1.hs, .cons (.exc (s1 a _ ha) ⟨o1, o2, fs, o3, o4⟩) r1, by rw [List.length_cons, e7, dArgs_len eA, ← A.len], ?_⟩
            cases hg : f.sem (.exc c :: ds) with
            | ok d => rw [hg] at q; exact fun v H2 H'' gr r => q v H2 H'' (R1.grow gr) (s1.trans gr.h0) r
            | ow o => rw [hg] at q; exact fun b H2 H'' gr n n0 ow => read_in q (R1.grow gr) (s1.trans gr.h0) n0 (R1.he_none n) ow (R1.own_ne n)
            | okp d o => rw [hg] at q; exact q.elim
            | owp d o => rw [hg] at q; exact q.elim
            | rz z => rw [hg] at q; exact fun cls dd H2 H'' gr x => q cls dd H2 H'' (R1.grow gr) (s1.trans gr.h0) x
            | bad => rw [hg] at q; exact q.elim
      · exact q.elim

  · cases h
end
theorem ms_raise {T : Tab} {S : SC} {X : Cx} {W : Wi} (O : OkS T S X W) (h0 : S.mode = 0) {c j : Nat} {x m : Str} {px p2 p3 p : Pos} (e1 : x = exNm c) (h3 : S.gl x = true) (h4 : c ∈ T.rs) : PS X (.Raise (some (.Call (.Name x px) [.Constant (.str m) j p2] [] p3)) none p) (sM X.K W (sRaise c)) := by
  subst e1
  have kx := O.exc c h4
  exact PS_imp (L2N.ps_raise (O.calm h0) O.tk (L2N.pmk_own PySem.F.excBase_ValueError kx.mx kx.mgc kx.kp (raises_own kx.ec.hs kx.ty) (O.toOkX.gl h3) kx.nd)) fun D σ H ⟨G, δ, H0, R, q⟩ =>
    q _ none σ H0 H R (Same.refl _) ⟨by rw [O.ct], .inl ⟨rfl, rfl⟩⟩
theorem tryA_ok {T : Tab} {S : SC} {X : Cx} {W : Wi} (O : OkS T S X W) {b : Ss} {c i : Nat} {u : Su} {body : List Stmt} {x n : Str} {px p p2 : Pos} {s0 : Stmt} {suite : List Stmt} (h3 : clsCk T S c x = true) (h4 : S.N[i]? = some n) (h5 : S.names.lookup n = some .local)
   (hb : ∀ (X' : Cx) (W' : Wi), OkS T S X' W' → PSs X' body (sM X'.K W' (b.den T))) (hu : ∀ a pn, PSs (X.suite a pn) (s0 :: suite) (fun D σ H => σ[i]? = some (some (V.ref a)) ∧ sM X.K (Wi.none W.ct) (u.den T i) D σ H)) :
   PS X (.Try body [.ExceptHandler (some (.Name x px)) (some n) (s0 :: suite) p2] [] [] p) (sM X.K W (sTryA T.rs (b.den T) c i (u.den T i))) := by
  obtain ⟨nm, hc, hn⟩ := clsNames O.toOkX h3
  have e4 : X.N[i]? = some n := by rw [O.N]; exact h4
  have e5 : X.env.kindOf n = some .local := by unfold Env.kindOf; rw [O.names]; exact h5
  have R := ps_tryT (pos := p) (pos' := p2) (np := px) O.stk O.frm O.ex O.nd (i := i) e4 e5 nm O.tk (tb := fun w => sM X.K ⟨w, W.ct⟩ (b.den T)) (ts := fun a D σ H => σ[i]? = some (some (V.ref a)) ∧ sM X.K (Wi.none W.ct) (u.den T i) D σ H) (fun w pn xe tk ps => hb (X.tr pn xe) ⟨w, W.ct⟩ (O.tr tk ps)) hu
  refine PS_imp R fun D σ H ⟨G, δ, H0, R, q⟩ => ⟨G, δ, H0, R, ?_⟩
  generalize u.den T i = fu at *
  generalize b.den T = fb at *
  have q : PoS X.K W G H0 (sTryA T.rs fb c i fu δ) D := q
  unfold sTryA at q
  cases e : fb δ with
  | rz x δ1 => rw [e] at q; exact tryA_wish O.toOkX hc hn (fun _ _ _ _ z => z) q
  | nx δ1 => rw [e] at q; exact q
  | rt d δ1 => rw [e] at q; exact q
  | ro d δ1 => rw [e] at q; exact q
  | bk δ1 => rw [e] at q; exact q
  | ct δ1 => rw [e] at q; exact q
  | bad => rw [e] at q; exact q
theorem tryN_ok {T : Tab} {S : SC} {X : Cx} {W : Wi} (O : OkS T S X W) {b : Ss} {hs : Hs} {body : List Stmt} {h0 : ExceptHandler} {hds : List ExceptHandler} {p : Pos} {l : List (Value × (Addr → Value → Option Addr → TS))}
   (hb : ∀ (X' : Cx) (W' : Wi), OkS T S X' W' → PSs X' body (sM X'.K W' (b.den T))) (hl : L2N.HdsOk X (h0 :: hds) l) (hp : Paired (fun (p : Value × (Addr → Value → Option Addr → TS)) (h : Nat × SDen) => p.1 = .ref (ctOf X.K h.1) ∧ h.1 ∈ T.qs ∧ h.1 ≠ 15 ∧ ∀ a cls d D σ H, sM X.K (Wi.none W.ct) h.2 D σ H → p.2 a cls d D σ H) l (hs.den T)) :
   PS X (.Try body (h0 :: hds) [] [] p) (sM X.K W (sTryN T.rs (b.den T) (hs.den T))) := by
  have R := L2N.ps_try_many (pos := p) O.stk O.frm O.tk (tb := fun w => sM X.K ⟨w, W.ct⟩ (b.den T)) (fun w pn xe tk ps => hb (X.tr pn xe) ⟨w, W.ct⟩ (O.tr tk ps)) hl
  refine PS_imp R fun D σ H ⟨G, δ, H0, R, q⟩ => ⟨G, δ, H0, R, ?_⟩
  generalize hs.den T = fh at *
  generalize b.den T = fb at *
  have q : PoS X.K W G H0 (sTryN T.rs fb fh δ) D := q
  unfold sTryN at q
  cases e : fb δ with
  | rz x δ1 =>
    rw [e] at q
    have q : PoS X.K W G H0 (tryN1 T.rs fh x δ1) D := q
    unfold tryN1 at q
    split at q
    · rename_i z
      obtain ⟨z1, z2⟩ := of_and z
      exact pickH_ok O.toOkX (by simpa using z2) z1 hp q
    · exact q.elim
  | nx δ1 => rw [e] at q; exact q
  | rt d δ1 => rw [e] at q; exact q
  | ro d δ1 => rw [e] at q; exact q
  | bk δ1 => rw [e] at q; exact q
  | ct δ1 => rw [e] at q; exact q
  | bad => rw [e] at q; exact q
theorem suRet {T : Tab} {S : SC} {X : Cx} {W : Wi} (O : OkS T S X W) {a : Addr} {pn : List (Addr × Obj)} {i : Nat} {e : Expr} {f : Den} {p : Pos} (he : PE (X.suite a pn) e (fun σ H Q => σ[i]? = some (some (V.ref a)) ∧ tM X.K (Wi.none W.ct) f σ H Q)) :
    PSs (X.suite a pn) [.Return (some e) p] (fun D σ H => σ[i]? = some (some (V.ref a)) ∧ sM X.K (Wi.none W.ct) (sRet f) D σ H) :=
  PSs_imp (pss_cons (ps_ret he) pss_nil) fun D σ H ⟨hσ, G, δ, H0, R, q⟩ => ⟨hσ, G, δ, H0, R, PoS.bindE (k := fun d δ1 => .rt d δ1) q fun d δ1 v H1 H' R1 r1 h1 => h1 v σ H1 H' R1 (Same.refl _) r1⟩
theorem suAsg {T : Tab} {S : SC} {X : Cx} {W : Wi} (O : OkS T S X W) {a : Addr} {pn : List (Addr × Obj)} {i j : Nat} {n : Str} {np : Pos} {e : Expr} {f : Den} {p : Pos} (he : PE (X.suite a pn) e (fun σ H Q => σ[i]? = some (some (V.ref a)) ∧ tM X.K (Wi.none W.ct) f σ H Q)) (h1 : S.st j n = true) (nc : notComp e = true) :
    PSs (X.suite a pn) [.Assign [.Name n np] e p] (fun D σ H => σ[i]? = some (some (V.ref a)) ∧ sM X.K (Wi.none W.ct) (sAsg (Tg.st (.var j)) f) D σ H) := by
  have Os := O.suite a pn
  have g : PG (X.suite a pn) (.Name n np) (gM X.K (Tg.st (.var j)) (Tg.slots (.var j))) := mg_name (Os.nm h1)
  refine PSs_imp (pss_cons (ps_asg he g (swSole nc) (swNone Os.toOkX rfl) rfl) pss_nil) fun D σ H ⟨hσ, G, δ, H0, R, q⟩ => ⟨hσ, G, δ, H0, R, PoS.bindE q fun d δ1 v H1 H' R1 r1 h1 => asg_step (D' := D) R1 r1 h1⟩
theorem suRtn {T : Tab} {S : SC} {X : Cx} {W : Wi} (O : OkS T S X W) {a : Addr} {pn : List (Addr × Obj)} {i j2 k2 : Nat} {e : Expr} {f : Den} {p p2 p3 : Pos} (he : PE (X.suite a pn) e (fun σ H Q => σ[i]? = some (some (V.ref a)) ∧ tM X.K (Wi.none W.ct) f σ H Q)) (ns : notStar e = true) :
    PSs (X.suite a pn) [.Return (some (.Tuple [.Constant .none j2 p2, e] k2 p3)) p] (fun D σ H => σ[i]? = some (some (V.ref a)) ∧ sM X.K (Wi.none W.ct) (sRet (dTup [dCst .non, f])) D σ H) := by
  have st := starEach_of (x := e) ns [] (X.suite a pn).env
  have hn : PE (X.suite a pn) (.Constant .none j2 p2) (tC .non) := pe_non
  have A := pa_cons hn (pa_cons he pa_nil st) (by rw [starEach_of (x := .Constant .none j2 p2) rfl [e]])
  have P := pss_cons (ps_ret (pos := p) (pe_tup (x1 := k2) (pos := p3) A)) pss_nil
  refine PSs_imp P fun D σ H ⟨hσ, G, δ, H0, R, q⟩ => ?_
  rw [rtn_eq] at q
  have key : tM X.K (Wi.none W.ct) f σ H (fun v H1 => [V.non, v].length ≤ sizeLine ∧ ∀ p, H1 p = none → D.rt (.ref p) (upd H1 p (.tup [.non, v]))) := by
    refine ⟨G, δ, H0, R, ?_⟩
    cases ed : f δ with
    | bad => rw [ed] at q; exact q.elim
    | rz z δ1 => rw [ed] at q; exact fun cls dd H1 H' R1 s1 x => q cls dd σ H1 H' R1 s1 x
    | ok d δ1 =>
      rw [ed] at q
      intro v H1 H' R1 s1 r1
      refine ⟨show 2 ≤ sizeLine by decide, fun p hp => ?_⟩
      have g := Gr.new (o := .tup [.non, v]) R1.hs hp
      exact q (.ref p) σ _ _ (R1.grow g) (s1.trans g.h0) (.tup (.inl (.inl upd_same)) (.cons .non (.cons (r1.mono g.h0) .nil)))
  exact ⟨hσ, key⟩
set_option maxHeartbeats 4000000
theorem aps_ok {T : Tab} {S : SC} {X : Cx} {W : Wi} (O : OkX T S X W) {i : Nat} : ∀ (l : List (Nat × E)) (ys : List Stmt), apsCk T S i l ys = true → PSs X ys (tAps X.K i (l.map fun p => (p.1, p.2.den T)))
  | [], [], _ => aps_nil
  | [], _ :: _, h => by cases h
  | _ :: _, [], h => by cases h
  | (k, e) :: l, s :: r, h => by
    obtain ⟨h1, h2⟩ := of_and h
    cases e1 : getNs s with
    | none => rw [e1] at h1; cases h1
    | some z =>
      obtain ⟨x, px, j, kk, pk, ps, m, ap, a, cp, p⟩ := z
      rw [e1] at h1
      have h : (S.at i x && decide (j = (k : Int)) && decide (m = "append") && (ap.endLine == cp.line) && e.ck T S a && notStar a) = true := h1
      obtain ⟨h, k6⟩ := of_and h
      obtain ⟨h, k5⟩ := of_and h
      obtain ⟨h, k4⟩ := of_and h
      obtain ⟨h, k3⟩ := of_and h
      obtain ⟨k1, k2⟩ := of_and h
      have e2 : j = (k : Int) := of_decide_eq_true k2
      have e3 : m = "append" := of_decide_eq_true k3
      subst e2 e3
      rw [getNs_eq e1]
      have s := starEach_of k6 [] X.env
      exact aps_cons (O.at k1) pe_int (e.ok O a k5).1 (by rw [s]; rfl) k4 s (aps_ok O l r h2)
mutual
theorem S.ok {T : Tab} {S : SC} {X : Cx} {W : Wi} (O : OkS T S X W) : ∀ (s : Z.S) (x : Stmt), s.ck T S x = true → PS X x (sM X.K W (s.den T))
  | .asg tg e, x, h => by
    cases x with
    | Assign ts x p =>
      match ts, h with
      | [t], h =>
        have h : ((S.mode == 0 || (tg.isVar && notComp x)) && tg.ck S.st t && e.ck T S x && inOrder S t x && notStar t && asgT t x) = true := h
        obtain ⟨h, h5⟩ := of_and h
        obtain ⟨h, h4⟩ := of_and h
        obtain ⟨h, h3⟩ := of_and h
        obtain ⟨h, h2⟩ := of_and h
        obtain ⟨h0, h1⟩ := of_and h
        have hv : X.calm = true ∨ tg.isVar = true := by
          rw [Bool.or_eq_true, Bool.and_eq_true] at h0
          rcases h0 with h0 | h0
          · exact .inl (O.calm (by simpa using h0))
          · exact .inr h0.1
        have gen : notComp x = true → PS X (.Assign [t] x p) (sM X.K W ((Z.S.asg tg e).den T)) := fun nc => ms_asg (e.ok O.toOkX x h2).1 (Tg.ok hv h1 fun i x p h => O.nm h) (swaps_of nc _ _ _) (swNone O.toOkX h3) (nstar_asg h4)
        cases t with
        | Name n pn =>
          have h5 : (notComp x || isComp x) = true := h5
          rw [Bool.or_eq_true] at h5
          rcases h5 with h5 | h5
          · exact gen h5
          · cases tg with
            | var i =>
              obtain ⟨elt, vs, tg, it, t, rfl, hf⟩ := comp_form h2 h5
              have m0 : S.mode = 0 := by
                rw [Bool.or_eq_true, Bool.and_eq_true] at h0
                rcases h0 with h0 | h0
                · simpa using h0
                · obtain ⟨_, z⟩ := h0
                  rw [isComp_not h5] at z
                  cases z
              obtain ⟨te, a, b⟩ := compAsg O m0 (p := pn) (spos := p) h1 hf
              exact asg_va a fun σ H Q q => b σ H Q (fr_read q)
            | tup is => cases h1
            | nst is => cases h1
        | Tuple ts k p2 => exact ms_asg (e.ok O.toOkX x h2).1 (Tg.ok hv h1 fun i x p h => O.nm h) (swTup _ _) (swNone O.toOkX h3) (nstar_asg h4)
        | _ => cases h5
    | _ => cases h
  | .par i j a b, x, h => by
    cases x with
    | Assign ts x p =>
      match ts, x, h with
      | [.Tuple [.Name x px, .Name y py] k pt], .Tuple [u, v] k2 pt2, h =>
        have h : (S.mode == 0 && decide (S.N[i]? = some x) && decide (S.N[j]? = some y) && decide (i ≠ j) && decide (S.names.lookup x = some .local) && decide (S.names.lookup y = some .local) &&
          (px.line == py.line) && a.ck T S u && b.ck T S v && notStar u && notStar v && !(foldedForSure 8 u && foldedForSure 8 v) && !(constantsAlone 8 u && constantsAlone 8 v)) = true := h
        obtain ⟨h, h12⟩ := of_and h
        obtain ⟨h, h11⟩ := of_and h
        obtain ⟨h, h10⟩ := of_and h
        obtain ⟨h, h9⟩ := of_and h
        obtain ⟨h, h8⟩ := of_and h
        obtain ⟨h, h7⟩ := of_and h
        obtain ⟨h, h6⟩ := of_and h
        obtain ⟨h, h5⟩ := of_and h
        obtain ⟨h, h4⟩ := of_and h
        obtain ⟨h, h3⟩ := of_and h
        obtain ⟨h, h2⟩ := of_and h
        obtain ⟨h0, h1⟩ := of_and h
        have h0 : S.mode = 0 := by simpa using h0
        have e1 : X.N[i]? = some x := by rw [O.N]; exact of_decide_eq_true h1
        have e2 : X.N[j]? = some y := by rw [O.N]; exact of_decide_eq_true h2
        have ij : i ≠ j := of_decide_eq_true h3
        have hxy : x ≠ y := fun z => by
          subst z
          exact ij (nodup_ix O.nd e1 e2)
        have hx : S.names.lookup x = some .local := of_decide_eq_true h4
        have hy : S.names.lookup y = some .local := of_decide_eq_true h5
        have A : PA X [u, v] (tA X.K W (dArgs [a.den T, b.den T])) := ma_cons (a.ok O.toOkX u h7).1 (ma_cons (b.ok O.toOkX v h8).1 ma_nil (starEach_of h10 _ _)) (starEach_of h9 _ _)
        refine ms_par (es := [u, v]) (ps_par (O.calm h0) O.nd e1 e2 ij (by rw [O.names]; exact hx) (by rw [O.names]; exact hy) A ?_)
        exact swPar O.toOkX hx hy h6 hxy h9 h10 (by rw [Bool.not_eq_true'] at h11; exact h11) (by rw [Bool.not_eq_true'] at h12; exact h12)
    | _ => cases h
  | .par3 i j l a b c, x, h => by
    cases x with
    | Assign ts x p =>
      match ts, x, h with
      | [.Tuple [.Name x px, .Name y py, .Name z pz] k pt], .Tuple [u, v, w] k2 pt2, h =>
        have h : (S.mode == 0 && decide (S.N[i]? = some x) && decide (S.N[j]? = some y) && decide (S.N[l]? = some z) && decide (i ≠ j) && decide (i ≠ l) && decide (j ≠ l) &&
          decide (S.names.lookup x = some .local) && decide (S.names.lookup y = some .local) && decide (S.names.lookup z = some .local) && (px.line == py.line) && (px.line == pz.line) && a.ck T S u && b.ck T S v && c.ck T S w && notStar u && notStar v && notStar w &&
          !(foldedForSure 8 u && (foldedForSure 8 v && foldedForSure 8 w)) && !(constantsAlone 8 u && (constantsAlone 8 v && constantsAlone 8 w))) = true := h
        obtain ⟨h, h19⟩ := of_and h
        obtain ⟨h, h18⟩ := of_and h
        obtain ⟨h, h17⟩ := of_and h
        obtain ⟨h, h16⟩ := of_and h
        obtain ⟨h, h15⟩ := of_and h
        obtain ⟨h, h14⟩ := of_and h
        obtain ⟨h, h13⟩ := of_and h
        obtain ⟨h, h12⟩ := of_and h
        obtain ⟨h, h11⟩ := of_and h
        obtain ⟨h, h10⟩ := of_and h
        obtain ⟨h, h9⟩ := of_and h
        obtain ⟨h, h8⟩ := of_and h
        obtain ⟨h, h7⟩ := of_and h
        obtain ⟨h, h6⟩ := of_and h
        obtain ⟨h, h5⟩ := of_and h
        obtain ⟨h, h4⟩ := of_and h
        obtain ⟨h, h3⟩ := of_and h
        obtain ⟨h, h2⟩ := of_and h
        obtain ⟨h0, h1⟩ := of_and h
        have h0 : S.mode = 0 := by simpa using h0
        have e1 : X.N[i]? = some x := by rw [O.N]; exact of_decide_eq_true h1
        have e2 : X.N[j]? = some y := by rw [O.N]; exact of_decide_eq_true h2
        have e3 : X.N[l]? = some z := by rw [O.N]; exact of_decide_eq_true h3
        have ij : i ≠ j := of_decide_eq_true h4
        have il : i ≠ l := of_decide_eq_true h5
        have jl : j ≠ l := of_decide_eq_true h6
        have hxy : x ≠ y := fun z => by
          subst z
          exact ij (nodup_ix O.nd e1 e2)
        have hxz : x ≠ z := fun z => by
          subst z
          exact il (nodup_ix O.nd e1 e3)
        have hyz : y ≠ z := fun z => by
          subst z
          exact jl (nodup_ix O.nd e2 e3)
        have hx : S.names.lookup x = some .local := of_decide_eq_true h7
        have hy : S.names.lookup y = some .local := of_decide_eq_true h8
        have hz : S.names.lookup z = some .local := of_decide_eq_true h9
        have A : PA X [u, v, w] (tA X.K W (dArgs [a.den T, b.den T, c.den T])) := ma_cons (a.ok O.toOkX u h12).1 (ma_cons (b.ok O.toOkX v h13).1 (ma_cons (c.ok O.toOkX w h14).1 ma_nil (starEach_of h17 _ _)) (starEach_of h16 _ _)) (starEach_of h15 _ _)
        refine ms_par3 (ps_par3 (O.calm h0) O.nd e1 e2 e3 ij il jl (by rw [O.names]; exact hx) (by rw [O.names]; exact hy) (by rw [O.names]; exact hz) A ?_ ?_)
        · exact swPar3 O.toOkX hx hy hz h10 h11 hxy hxz hyz h15 h16 h17 (by rw [Bool.not_eq_true'] at h18; exact h18) (by rw [Bool.not_eq_true'] at h19; exact h19)
        · rfl
    | _ => cases h
  | .own i f, x, h => by
    cases x with
    | Assign ts x p =>
      match ts, h with
      | [.Name n pn], h =>
        have h : (S.st i n && f.ck T S x && (notComp x || (S.mode == 0 && isComp x))) = true := h
        obtain ⟨h, h3⟩ := of_and h
        obtain ⟨h1, h2⟩ := of_and h
        rw [Bool.or_eq_true] at h3
        rcases h3 with h3 | h3
        · obtain ⟨g1, g2⟩ := of_and h1
          exact asg_ow (ps_set O.nd (by rw [O.N]; exact of_decide_eq_true g1) (O.toOkX.loc g2) (f.ok O.toOkX x h2).1 (swaps_of h3 _ _ _) (.inl (O.fn n))) fun σ H Q q => q
        · obtain ⟨h0, h3⟩ := of_and h3
          have h0 : S.mode = 0 := by simpa using h0
          obtain ⟨elt, vs, tg, it, t, rfl⟩ := comp_formF h2 h3
          obtain ⟨te, a, b⟩ := compAsg O h0 (p := pn) (spos := p) h1 h2
          exact asg_ow a b
    | _ => cases h
  | .ownC i k es, x, h => by
    cases x with
    | Assign ts x p =>
      match ts, x, h with
      | [.Name nm pn], .Call (.Name n p1) (y :: ys) [] cp, h =>
        have h : (S.st i nm && (S.mode == 0 && S.gl n && !(n == ("__debug__" : Str)) && (match T.fns[k]? with
          | some p => decide (p.name = n) && decide (p.ar = (y :: ys).length) && p.pin.isNone
          | none => false) && es.ck T S (y :: ys))) = true := h
        obtain ⟨hs, h⟩ := of_and h
        obtain ⟨h1, h5⟩ := of_and h
        obtain ⟨h1, h4⟩ := of_and h1
        obtain ⟨h1, h2⟩ := of_and h1
        obtain ⟨h0, h1⟩ := of_and h1
        have h0 : S.mode = 0 := by simpa using h0
        unfold Z.S.den
        cases e : T.fns[k]? with
        | none => rw [e] at h4; cases h4
        | some q =>
          rw [e] at h4
          obtain ⟨h4, h8⟩ := of_and h4
          obtain ⟨h6, h7⟩ := of_and h4
          have e6 : q.name = n := of_decide_eq_true h6
          have e7 : q.ar = (y :: ys).length := of_decide_eq_true h7
          subst e6
          obtain ⟨lv, f, fd, ps, F, hr, hm, hk, hb⟩ := O.toOkX.call h0 k q e
          have A := es.ok O.toOkX (y :: ys) h5
          obtain ⟨n, r⟩ := A.ns (pos := cp)
          have F := Z.FnOk.plain F h8
          obtain ⟨g1, g2⟩ := of_and hs
          have hc : PE X (.Call (.Name q.name p1) (y :: ys) [] cp) (tCo X.K W (cCall q.sem (es.den T))) := mc_call F hr (O.gl h1) hm hk hb (L2N.passAt O.tk) (by rw [Bool.not_eq_true'] at h2; exact h2) A.args (by rw [e7, A.len]) rfl (starEach_of n _ _) r
          exact asg_oc (ps_set O.nd (by rw [O.N]; exact of_decide_eq_true g1) (O.toOkX.loc g2) hc (swaps_of (x := .Call (.Name q.name p1) (y :: ys) [] cp) rfl _ _ _) (.inl (O.fn nm))) fun σ H Q q => q
    | _ => cases h
  | .retC k es, x, h => by
    cases x with
    | Return x p =>
      match x, h with
      | some (.Call (.Name n p1) (y :: ys) [] cp), h =>
        have h : (S.mode == 0 && S.gl n && !(n == ("__debug__" : Str)) && (match T.fns[k]? with
          | some p => decide (p.name = n) && decide (p.ar = (y :: ys).length) && p.pin.isNone
          | none => false) && es.ck T S (y :: ys)) = true := h
        obtain ⟨h1, h5⟩ := of_and h
        obtain ⟨h1, h4⟩ := of_and h1
        obtain ⟨h1, h2⟩ := of_and h1
        obtain ⟨h0, h1⟩ := of_and h1
        have h0 : S.mode = 0 := by simpa using h0
        unfold Z.S.den
        cases e : T.fns[k]? with
        | none => rw [e] at h4; cases h4
        | some q =>
          rw [e] at h4
          obtain ⟨h4, h8⟩ := of_and h4
          obtain ⟨h6, h7⟩ := of_and h4
          have e6 : q.name = n := of_decide_eq_true h6
          have e7 : q.ar = (y :: ys).length := of_decide_eq_true h7
          subst e6
          obtain ⟨lv, f, fd, ps, F, hr, hm, hk, hb⟩ := O.toOkX.call h0 k q e
          have A := es.ok O.toOkX (y :: ys) h5
          obtain ⟨n, r⟩ := A.ns (pos := cp)
          have F := Z.FnOk.plain F h8
          exact ms_retC (mc_call F hr (O.gl h1) hm hk hb (L2N.passAt O.tk) (by rw [Bool.not_eq_true'] at h2; exact h2) A.args (by rw [e7, A.len]) rfl (starEach_of n _ _) r)
    | _ => cases h
  | .exp e, x, h => by
    cases x with
    | Expr y p =>
      obtain ⟨h1, h2⟩ := of_and h
      exact ms_exp (e.ok O.toOkX y h1).1 (swaps_of h2 _ _ _)
    | _ => cases h
  | .ext i f, x, h => by
    cases x with
    | Expr y p =>
      match y, h with
      | .Call (.Attribute (.Name n np) m ap) [y] [] cp, h =>
        have h : (S.at i n && decide (m = "extend") && (ap.endLine == cp.line) && f.ck T S y && notStar y) = true := h
        obtain ⟨h, h5⟩ := of_and h
        obtain ⟨h, h4⟩ := of_and h
        obtain ⟨h, h3⟩ := of_and h
        obtain ⟨h1, h2⟩ := of_and h
        have e2 : m = "extend" := of_decide_eq_true h2
        subst e2
        have s := starEach_of h5 [] X.env
        exact ms_ext (O.toOkX.at h1) (f.ok O.toOkX y h4).1 (by rw [s]; rfl) h3 s
    | _ => cases h
  | .ins i ix e, x, h => by
    cases x with
    | Expr y p =>
      match y, h with
      | .Call (.Attribute (.Name n np) m ap) [z, y] [] cp, h =>
        have h : (S.at i n && decide (m = "insert") && (ap.endLine == cp.line) && ix.ck T S z && notStar z && e.ck T S y && notStar y) = true := h
        obtain ⟨h, h7⟩ := of_and h
        obtain ⟨h, h6⟩ := of_and h
        obtain ⟨h, h5⟩ := of_and h
        obtain ⟨h, h4⟩ := of_and h
        obtain ⟨h, h3⟩ := of_and h
        obtain ⟨h1, h2⟩ := of_and h
        have e2 : m = "insert" := of_decide_eq_true h2
        subst e2
        have s := starEach_of h5 [y] X.env
        have s2 := starEach_of h7 [] X.env
        exact ms_ins (O.toOkX.at h1) (ix.ok O.toOkX z h4).1 (e.ok O.toOkX y h6).1 (by rw [s, s2]; rfl) h3 s s2
    | _ => cases h
  | .augI o i ix e, x, h => by
    cases x with
    | AugAssign t op x p =>
      match t, h with
      | .Subscript (.Name n np) y sp, h =>
        have h : (S.at i n && ix.ck T S y && notSlice y && decide (op = augOp o) && e.ck T S x) = true := h
        obtain ⟨h, h5⟩ := of_and h
        obtain ⟨h, h4⟩ := of_and h
        obtain ⟨h, h3⟩ := of_and h
        obtain ⟨h1, h2⟩ := of_and h
        have e2 : op = augOp o := of_decide_eq_true h4
        subst e2
        exact ms_augI o (O.toOkX.at h1) (ix.ok O.toOkX y h2).1 (e.ok O.toOkX x h5).1 (fun ov iv new => by cases y <;> first | rfl | cases h3)
    | _ => cases h
  | .app i e, x, h => by
    cases x with
    | Expr y p =>
      match y, h with
      | .Call (.Attribute (.Name n np) m ap) [y] [] cp, h =>
        have h : (S.at i n && decide (m = "append") && (ap.endLine == cp.line) && e.ck T S y && notStar y) = true := h
        obtain ⟨h, h5⟩ := of_and h
        obtain ⟨h, h4⟩ := of_and h
        obtain ⟨h, h3⟩ := of_and h
        obtain ⟨h1, h2⟩ := of_and h
        have e2 : m = "append" := of_decide_eq_true h2
        subst e2
        have s := starEach_of h5 [] X.env
        exact ms_app (O.toOkX.at h1) (e.ok O.toOkX y h4).1 (by rw [s]; rfl) h3 s
    | _ => cases h
  | .sub i ix e, x, h => by
    cases x with
    | Assign ts x p =>
      match ts, h with
      | [.Subscript (.Name n np) y sp], h =>
        have h : (S.at i n && ix.ck T S y && notSlice y && e.ck T S x && notComp x) = true := h
        obtain ⟨h, h5⟩ := of_and h
        obtain ⟨h, h4⟩ := of_and h
        obtain ⟨h, h3⟩ := of_and h
        obtain ⟨h1, h2⟩ := of_and h
        exact ms_sub (O.toOkX.at h1) (ix.ok O.toOkX y h2).1 (e.ok O.toOkX x h4).1 (swSole h5) rfl (fun v => by cases y <;> first | rfl | cases h3)
    | _ => cases h
  | .aug o i e, x, h => by
    cases x with
    | AugAssign t op x p =>
      cases t with
      | Name n np =>
        have h : (S.st i n && decide (op = augOp o) && e.ck T S x) = true := h
        obtain ⟨h, h3⟩ := of_and h
        obtain ⟨h1, h2⟩ := of_and h
        have e2 : op = augOp o := of_decide_eq_true h2
        subst e2
        obtain ⟨g1, g2⟩ := of_and h1
        exact ms_aug o O.nd (by rw [O.N]; exact of_decide_eq_true g1) (O.toOkX.loc g2) (.inl (O.fn n)) (e.ok O.toOkX x h3).1
      | _ => cases h
    | _ => cases h
  | .ret e, x, h => by
    cases x with
    | Return v p =>
      cases v with
      | none => cases h
      | some v => exact ms_ret (e.ok O.toOkX v h).1
    | _ => cases h
  | .retN, x, h => by
    cases x with
    | Return v p =>
      cases v with
      | none => exact ms_retN
      | some v => cases h
    | _ => cases h
  | .ifs c a b, x, h => by
    cases x with
    | If y xs ys p =>
      have h : (c.ck T S y && a.ck T S xs && b.ck T S ys) = true := h
      obtain ⟨h, h3⟩ := of_and h
      obtain ⟨h1, h2⟩ := of_and h
      exact ms_if (c.ok O.toOkX y h1).2 (a.ok O xs h2) (b.ok O ys h3)
    | _ => cases h
  | .whl ws n c b, x, h => by
    cases x with
    | While y xs ys p =>
      match ys, h with
      | [], h =>
        have h : (S.mode == 0 && c.ck T S y && b.ck T S xs) = true := h
        obtain ⟨h, h2⟩ := of_and h
        obtain ⟨_, h1⟩ := of_and h
        exact ms_whl O.ps (c.ok O.toOkX y h1).2 (b.ok O xs h2)
    | _ => cases h
  | .for ws tg it b, x, h => by
    cases x with
    | For t y xs ys p =>
      match ys, h with
      | [], h =>
        have h : (S.mode == 0 && tg.ck S.st t && it.ck T S y && it.tgk t && notSet y && b.ck T S xs) = true := h
        obtain ⟨h, h4⟩ := of_and h
        obtain ⟨h, h3⟩ := of_and h
        obtain ⟨h, h5⟩ := of_and h
        obtain ⟨h, h2⟩ := of_and h
        obtain ⟨h0, h1⟩ := of_and h
        have h0 : S.mode = 0 := by simpa using h0
        exact ms_for O.ps (O.calm h0) (it.ok O.toOkX y h2 h5) (Tg.ok (.inl (O.calm h0)) h1 fun i x p h => O.nm h) (b.ok O xs h4) (folded_of h3 _)
    | _ => cases h
  | .pass, x, h => by
    cases x with
    | Pass p => exact ms_pass
    | _ => cases h
  | .brk, x, h => by
    cases x with
    | Break p => exact ms_brk
    | _ => cases h
  | .cnt, x, h => by
    cases x with
    | Continue p => exact ms_cnt
    | _ => cases h
  | .retF f, x, h => by
    cases x with
    | Return v p =>
      cases v with
      | none => cases h
      | some v => exact ms_retF (f.ok O.toOkX v h).1
    | _ => cases h
  | .retO i, x, h => by
    cases x with
    | Return v p =>
      cases v with
      | none => cases h
      | some v =>
        cases v with
        | Name n np => exact ms_retO (O.toOkX.at h)
        | _ => cases h
    | _ => cases h
  | .bad, x, h => ms_bad
  | .raise c, x, h => by
    have h : (match getRaise x with
      | some (x, _) => S.mode == 0 && decide (x = exNm c) && S.gl x && decide (c ∈ T.rs)
      | none => false) = true := h
    split at h
    · rename_i x t eg
      obtain ⟨m, px, j, p2, p3, p⟩ := t
      have ex := getRaise_eq eg
      subst ex
      obtain ⟨h, h4⟩ := of_and h
      obtain ⟨h, h3⟩ := of_and h
      obtain ⟨h0, h1⟩ := of_and h
      exact ms_raise O (by simpa using h0) (of_decide_eq_true h1) h3 (of_decide_eq_true h4)
    · cases h
  | .tryA b c i u, x, h => by
    have h : (match getTryA x with
      | some (body, x, _, n, s0, suite, _) => S.mode == 0 && b.ck T S body && clsCk T S c x && decide (S.N[i]? = some n) && decide (S.names.lookup n = some .local) && u.ck T S.suite i (s0 :: suite)
      | none => false) = true := h
    split at h
    · rename_i body x px n s0 suite t eg
      obtain ⟨p2, p⟩ := t
      have ex := getTryA_eq eg
      subst ex
      obtain ⟨h, h6⟩ := of_and h
      obtain ⟨h, h5⟩ := of_and h
      obtain ⟨h, h4⟩ := of_and h
      obtain ⟨h, h3⟩ := of_and h
      obtain ⟨h0, h2⟩ := of_and h
      have h0 : S.mode = 0 := by simpa using h0
      exact tryA_ok O h3 (of_decide_eq_true h4) (of_decide_eq_true h5) (fun X' W' O' => b.ok O' body h2) fun a pn => u.ok O h0 (s0 :: suite) h6
    · cases h
  | .tryN b hs, x, h => by
    have h : (match getTryN x with
      | some (body, h0, hds, _) => S.mode == 0 && b.ck T S body && hs.ck T S (h0 :: hds)
      | none => false) = true := h
    split at h
    · rename_i body h0' hds p eg
      have ex := getTryN_eq eg
      subst ex
      obtain ⟨h, h3⟩ := of_and h
      obtain ⟨h0, h2⟩ := of_and h
      obtain ⟨l, hl, hp⟩ := hs.ok O (h0' :: hds) h3
      exact tryN_ok O (fun X' W' O' => b.ok O' body h2) hl hp
    · cases h
theorem Su.ok {T : Tab} {S : SC} {X : Cx} {W : Wi} (O : OkS T S X W) (h0 : S.mode = 0) {a : Addr} {pn : List (Addr × Obj)} {i : Nat} : ∀ (u : Su) (x : List Stmt), u.ck T S.suite i x = true → PSs (X.suite a pn) x (fun D σ H => σ[i]? = some (some (V.ref a)) ∧ sM X.K (Wi.none W.ct) (u.den T i) D σ H)
  | .ss ss, x, h => PSs_imp (ss.ok (O.suite a pn) x h) fun D σ H q => q.2
  | .retH k es, x, h => by
    have h : (match getRet1 x with
      | some (e, _) => hotCk T S.suite i k es e
      | none => false) = true := h
    split at h
    · rename_i e p eg
      have ex := getRet1_eq eg
      subst ex
      exact suRet O (me_callT O h0 (a := a) (pn := pn) (fun ys hy => es.ok (O.suite a pn).toOkX ys hy) h).1
    · cases h
  | .asgH j k es, x, h => by
    have h : (match getAsg1 x with
      | some (n, _, e, _) => S.suite.st j n && hotCk T S.suite i k es e
      | none => false) = true := h
    split at h
    · rename_i n np e p eg
      have ex := getAsg1_eq eg
      subst ex
      obtain ⟨h1, h2⟩ := of_and h
      obtain ⟨he, nc, _⟩ := me_callT O h0 (a := a) (pn := pn) (fun ys hy => es.ok (O.suite a pn).toOkX ys hy) h2
      exact suAsg O he h1 nc
    · cases h
  | .rtnH k es, x, h => by
    have h : (match getRtn1 x with
      | some (_, _, e, _) => hotCk T S.suite i k es e
      | none => false) = true := h
    split at h
    · rename_i j2 p2 e t eg
      obtain ⟨k2, p3, p⟩ := t
      have ex := getRtn1_eq eg
      subst ex
      obtain ⟨he, _, ns⟩ := me_callT O h0 (a := a) (pn := pn) (fun ys hy => es.ok (O.suite a pn).toOkX ys hy) h
      exact suRtn O he ns
    · cases h
theorem Hs.ok {T : Tab} {S : SC} {X : Cx} {W : Wi} (O : OkS T S X W) : ∀ (hs : Hs) (x : List ExceptHandler), hs.ck T S x = true → ∃ l, L2N.HdsOk X x l ∧
    Paired (fun (p : Value × (Addr → Value → Option Addr → TS)) (h : Nat × SDen) => p.1 = .ref (ctOf X.K h.1) ∧ h.1 ∈ T.qs ∧ h.1 ≠ 15 ∧ ∀ a cls d D σ H, sM X.K (Wi.none W.ct) h.2 D σ H → p.2 a cls d D σ H) l (hs.den T)
  | .nil, x, h => by
    cases x with
    | nil => exact ⟨[], .nil, .nil⟩
    | cons _ _ => cases h
  | .cons c ss hs, x, h => by
    cases x with
    | nil => cases h
    | cons x r =>
      have h : ((match getH x with
        | some (x, _, s0, suite, _) => clsCk T S c x && ss.ck T S.suite (s0 :: suite)
        | none => false) && hs.ck T S r) = true := h
      obtain ⟨g, h3⟩ := of_and h
      clear h
      split at g
      · rename_i x px s0 suite p eg
        have ex := getH_eq eg
        subst ex
        obtain ⟨h1, h2⟩ := of_and g
        obtain ⟨nm, hc, hn⟩ := clsNames O.toOkX h1
        obtain ⟨l, a, b⟩ := hs.ok O r h3
        exact ⟨(.ref (ctOf X.K c), fun _ _ _ => sM X.K (Wi.none W.ct) (ss.den T)) :: l, .cons nm (fun a oe cls d pn _ _ => ss.ok (O.suite a ((a, oe) :: pn)) (s0 :: suite) h2) a, .cons ⟨rfl, hc, hn, fun _ _ _ _ _ _ z => z⟩ b⟩
      · cases g
theorem Ss.ok {T : Tab} {S : SC} {X : Cx} {W : Wi} (O : OkS T S X W) : ∀ (s : Ss) (x : List Stmt), s.ck T S x = true → PSs X x (sM X.K W (s.den T))
  | .nil, x, h => by
    cases x with
    | nil => exact ms_nil
    | cons _ _ => cases h
  | .cons s ss, x, h => by
    cases x with
    | nil => cases h
    | cons x xs =>
      obtain ⟨h1, h2⟩ := of_and h
      exact ms_cons (s.ok O x h1) (ss.ok O xs h2)
  | .nst i tg it l ss, x, h => by
    match x, h with
    | x1 :: x2 :: xs, h =>
      obtain ⟨h1, h2⟩ := of_and h
      cases e1 : getN3 x1 with
      | none => rw [e1] at h1; cases h1
      | some z1 =>
        cases e2 : getFor x2 with
        | none => rw [e1, e2] at h1; cases h1
        | some z2 =>
          obtain ⟨x, px, q0, q1, q2, q3, p1⟩ := z1
          obtain ⟨t, y, ys, p2⟩ := z2
          rw [e1, e2] at h1
          have h : (S.mode == 0 && S.st i x && tg.ck S.st t && it.ck T S y && notSet y && decide (i ∉ tg.slots) && apsCk T S i l ys) = true := h1
          obtain ⟨h, k7⟩ := of_and h
          obtain ⟨h, k6⟩ := of_and h
          obtain ⟨h, k5⟩ := of_and h
          obtain ⟨h, k4⟩ := of_and h
          obtain ⟨h, k3⟩ := of_and h
          obtain ⟨h0, k2⟩ := of_and h
          have h0 : S.mode = 0 := by simpa using h0
          obtain ⟨g1, g2⟩ := of_and k2
          rw [getN3_eq e1, getFor_eq e2]
          exact ms_nst O.nd (by rw [O.N]; exact of_decide_eq_true g1) (O.toOkX.loc g2) (.inl (O.fn x)) O.ps (O.calm h0) (it.ok O.toOkX y k4).1 (Tg.ok (.inl (O.calm h0)) k3 fun i x p h => O.nm h) (of_decide_eq_true k6) (aps_ok O.toOkX l ys k7) (folded_of k5 _) (ss.ok O xs h2)
end
end Z

namespace Z
open PySem PySem.Spec PyProof.Rows L2
/-- a def by slots -/
structure Df where
  name : Str
  N : List Str
  ar : Nat
  body : Ss
def endD (r : RS) : RD :=
  match r with
  | .rt d _ => .ok d
  | .ro o _ => .ow o
  | .nx _ => .ok .non
  | .rz c _ => .rz c
  | _ => .bad
def runD (T : Tab) (d : Df) (ds : List D) : RD := endD (d.body.den T (ds.map Sl.va ++ List.replicate (d.N.length - d.ar) Sl.no))
theorem start_rl {K : PySem.W.Frag} {H0 H : Hp} {vs : List V} {ds : List D} {N : List Str} {n : Nat} (s : Same H0 H) (r : Reps K H0 vs ds) (hl : ds.length = n) :
    Rl K ⟨H, H0, []⟩ (ds.map Sl.va ++ List.replicate (N.length - n) Sl.no) (L2.start N vs) H0 H := by
  have hv := r.length
  refine ⟨s, Same.refl _, Same.refl _, fun _ _ => rfl, ?_, fun i t x e1 e2 => ?_, fun i j t u a ne e1 e2 o1 o2 _ _ => ?_, fun i a h => by cases h⟩
  · unfold L2.start
    rw [List.length_append, List.length_append, List.length_map, List.length_map, List.length_replicate, List.length_replicate, hv, hl]
  · by_cases hi : i < ds.length
    · rw [List.getElem?_append_left (by rw [List.length_map]; exact hi), List.getElem?_map, List.getElem?_eq_getElem hi] at e1
      cases e1
      obtain ⟨v, hv2, rv⟩ := r.get (List.getElem?_eq_getElem hi)
      unfold L2.start at e2
      rw [List.getElem?_append_left (by rw [List.length_map, hv]; exact hi), List.getElem?_map, hv2] at e2
      cases e2
      exact ⟨v, rfl, rv⟩
    · rw [List.getElem?_append_right (by rw [List.length_map]; omega), List.getElem?_replicate] at e1
      split at e1
      · cases e1; trivial
      · cases e1
  · by_cases hi : i < ds.length
    · rw [List.getElem?_append_left (by rw [List.length_map]; exact hi), List.getElem?_map, List.getElem?_eq_getElem hi] at e1
      cases e1
      cases o1
    · rw [List.getElem?_append_right (by rw [List.length_map]; omega), List.getElem?_replicate] at e1
      split at e1
      · cases e1; cases o1
      · cases e1
section
variable {P : Program} {w : World} {K : PySem.W.Frag} {mg : Str → Option Value} {base : Heap} {ct : Nat → Addr}
theorem room65 {k : Nat} {A : Around} (r : Room k A) : A.units + 65 < cLine := by have := r.un; omega
/-- it stands ready at a level -/
def ReadyAtH (P : Program) (w : World) (K : PySem.W.Frag) (mg : Str → Option Value) (base : Heap) (ct : Nat → Addr) (lv : Nat) (p : Fd) : Prop :=
  ∃ (f : Addr) (fd : FuncData) (ps : List Str), FnT P w K mg base lv f fd ps (spD K ct p.ar p.sem) ∧ mg p.name = some (.ref f) ∧ PySem.W.keepIn K (.ref f) = true ∧ Binds K fd ps []
theorem ReadyAtH.up {P : Program} {w : World} {K : PySem.W.Frag} {mg : Str → Option Value} {base : Heap} {ct : Nat → Addr} {lv lv' : Nat} {p : Fd} (h : ReadyAtH P w K mg base ct lv p) (l : lv ≤ lv') : ReadyAtH P w K mg base ct lv' p := by
  obtain ⟨f, fd, ps, F, a⟩ := h
  exact ⟨f, fd, ps, F.mono l, a⟩
def ReadyAt (P : Program) (w : World) (K : PySem.W.Frag) (mg : Str → Option Value) (base : Heap) (ct : Nat → Addr) (lv : Nat) (p : Fd) : Prop :=
  ∃ (f : Addr) (fd : FuncData) (ps : List Str), FnOk P w K mg base (L2N.CX P w) lv f fd ps (spF K ct p) ∧ mg p.name = some (.ref f) ∧ PySem.W.keepIn K (.ref f) = true ∧ Binds K fd ps []
theorem ReadyAt.up {lv lv' : Nat} {p : Fd} (h : ReadyAt P w K mg base ct lv p) (l : lv ≤ lv') : ReadyAt P w K mg base ct lv' p := by
  obtain ⟨f, fd, ps, F, a⟩ := h
  exact ⟨f, fd, ps, F.mono l, a⟩
/-- what the module has beside its defs -/
structure Top (K : PySem.W.Frag) (mg : Str → Option Value) (T : Tab) : Prop where
  exc : ∀ c ∈ T.rs, ExcK K mg T.qs c
  ask : ∀ d ∈ T.qs, d ≠ 15 → mg (exNm d) = some (.ref (ctOf K d)) ∧ (exNm d == ("__debug__" : Str)) = false
  bi : ∀ x ∈ T.bis, mg x = none
  glo : ∀ (k : Nat) (p : Str × D), T.cons[k]? = some p → ∃ u v, mg p.1 = some u ∧ RelV v u ∧ ∀ H, Rep K H v p.2
def scCk (N P : List Str) (sc : Scope) : Bool :=
  (match sc.kind with | .function => true | _ => false) && !sc.isCoroutine && !sc.isGenerator && decide N.Nodup && decide (N.take P.length = P) && P.all (fun x => decide (sc.names.lookup x = some .local) || decide (sc.names.lookup x = some .cell)) && sc.names.all (fun y => !decide (y.2 = .free))
theorem fnScope_ck {N P : List Str} {sc : Scope} (h : scCk N P sc = true) : FnScope N P sc := by
  unfold scCk at h
  simp only [Bool.and_eq_true, Bool.not_eq_true', decide_eq_true_eq, List.all_eq_true, Bool.or_eq_true, decide_eq_false_iff_not] at h
  obtain ⟨⟨⟨⟨⟨⟨h1, h2⟩, h3⟩, h4⟩, h5⟩, h6⟩, h7⟩ := h
  refine ⟨?_, h2, h3, h4, h5, h6, h7⟩
  split at h1
  · assumption
  · cases h1
/-- the look at a def -/
def Df.ck (T : Tab) (d : Df) (st : Stmt) : Bool := decide (d.ar ≤ d.N.length) && scCk d.N (d.N.take d.ar) (defScope st) && d.body.ck T ⟨d.N, (defScope st).names, 0⟩ (defBody st)
theorem def_ok {T : Tab} {d : Df} {st : Stmt} {qual : Str} {f : Addr} {fd : FuncData} {lv : Nat} (F : Fun K d.name qual st f fd) (tp : Top K mg T) (hct : ct = ctOf K) (cl : ∀ p ∈ T.fns, ReadyAt P w K mg base ct lv p) (hcl : ∀ p ∈ T.hfns, ReadyAtH P w K mg base ct lv p) (ck : d.ck T st = true) :
    FnOk P w K mg base (L2N.CX P w) (lv + 1) f fd (d.N.take d.ar) (spD K ct d.ar (runD T d)) := by
  obtain ⟨c1, c3⟩ := of_and ck
  obtain ⟨c1, c2⟩ := of_and c1
  have c1 : d.ar ≤ d.N.length := of_decide_eq_true c1
  have sc := fnScope_ck c2
  refine okN F sc (fun vs H Q E h => ?_) (fun cdv A outer s H vs Q E hr h => ?_)
  · obtain ⟨H0, ds, _, r, hl, _⟩ := h
    rw [r.length, hl, List.length_take]
    omega
  · obtain ⟨H0, ds, s0, r, hl, q⟩ := h
    have O : OkS T ⟨d.N, (defScope st).names, 0⟩ (cxOf (L2N.CX P w) P w K mg base d.N qual (defScope st) f cdv A outer s H E) ⟨fun cls dd _ H => E cls dd H, ct⟩ := by
      refine { N := rfl, nd := sc.nd, names := rfl, kind := sc.kind, calm := fun _ => rfl, hot := fun e => absurd (show (0 : Nat) = 1 from e) (by decide), hu := room65 hr, tk := ?_, call := fun _ k p e => ?_, ct := hct, exc := tp.exc, ask := tp.ask, bi := tp.bi, glo := tp.glo, ps := ?_, fn := fun _ => rfl, ex := rfl, stk := rfl, frm := rfl, hcall := fun _ k p e => ?_ }
      · exact L2N.takes_of rfl rfl rfl rfl
      · obtain ⟨f', fd', ps', F', a, b, c⟩ := cl p (List.mem_of_getElem? e)
        exact ⟨lv, f', fd', ps', F', hr, a, b, c⟩
      · exact passes_of rfl
      · obtain ⟨f', fd', ps', F', a, b, c⟩ := hcl p (List.mem_of_getElem? e)
        exact ⟨lv, f', fd', ps', F', L2H.roomH_of hr, a, b, c⟩
    refine ⟨_, d.body.ok O (defBody st) c3, ⟨H, H0, []⟩, _, H0, start_rl s0 r hl, ?_⟩
    unfold runD at q
    cases e : d.body.den T (ds.map Sl.va ++ List.replicate (d.N.length - d.ar) Sl.no) with
    | rt z δ =>
      rw [e] at q
      exact fun v σ' H1 H' R s' rv => q v H1 H' ⟨R.he, R.hf, R.hs, R.hn⟩ rv
    | ro z δ =>
      rw [e] at q
      exact fun a σ' H1 H' R s' n0 ne w nw => q a H1 H' ⟨R.he, R.hf, R.hs, R.hn⟩ ne n0 w
    | nx δ =>
      rw [e] at q
      exact fun σ' H1 H' R s' => q .non H1 H' ⟨R.he, R.hf, R.hs, R.hn⟩ .non
    | rz c δ =>
      rw [e] at q
      exact fun cls dd σ' H1 H' R s' x => q cls dd H1 H' ⟨R.he, R.hf, R.hs, R.hn⟩ x
    | bk δ => rw [e] at q; exact q.elim
    | ct δ => rw [e] at q; exact q.elim
    | bad => rw [e] at q; exact q.elim
/-! ### a def that is called while an exception is handled -/
def Df.ckH (T : Tab) (d : Df) (st : Stmt) : Bool := decide (d.ar ≤ d.N.length) && scCk d.N (d.N.take d.ar) (defScope st) && d.body.ck T ⟨d.N, (defScope st).names, 1⟩ (defBody st)
theorem def_okT {T : Tab} {d : Df} {st : Stmt} {qual : Str} {f : Addr} {fd : FuncData} {lv : Nat} (F : Fun K d.name qual st f fd) (tp : Top K mg T) (hct : ct = ctOf K) (ck : d.ckH T st = true) : FnT P w K mg base (lv + 1) f fd (d.N.take d.ar) (spD K ct d.ar (runD T d)) := by
  obtain ⟨c1, c3⟩ := of_and ck
  obtain ⟨c1, c2⟩ := of_and c1
  have c1 : d.ar ≤ d.N.length := of_decide_eq_true c1
  have sc := fnScope_ck c2
  refine okT F sc (fun vs H Q E h => ?_) (fun cdv A outer s H vs Q E hr hot h => ?_)
  · obtain ⟨H0, ds, _, r, hl, _⟩ := h
    rw [r.length, hl, List.length_take]
    omega
  · obtain ⟨H0, ds, s0, r, hl, q⟩ := h
    have O : OkS T ⟨d.N, (defScope st).names, 1⟩ (cxT P w K mg base d.N qual (defScope st) f cdv A outer s H E) ⟨fun cls dd _ H => E cls dd H, ct⟩ := by
      refine { N := rfl, nd := sc.nd, names := rfl, kind := sc.kind, calm := fun e => absurd (show (1 : Nat) = 0 from e) (by decide), hot := fun _ => hot, hu := (show (A.deeper (envOfC qual (defScope st) s.heap.objs.size f cdv)).units + 65 < cLine from by have := hr.un; omega), tk := ?_, call := fun e => absurd (show (1 : Nat) = 0 from e) (by decide), ct := hct, exc := tp.exc, ask := tp.ask, bi := tp.bi, glo := tp.glo, ps := ?_, fn := fun _ => rfl, ex := rfl, stk := rfl, frm := rfl, hcall := fun e => absurd (show (1 : Nat) = 0 from e) (by decide) }
      · exact L2N.takes_of rfl rfl rfl rfl
      · exact passes_of rfl
    refine ⟨_, d.body.ok O (defBody st) c3, ⟨H, H0, []⟩, _, H0, start_rl s0 r hl, ?_⟩
    unfold runD at q
    cases e : d.body.den T (ds.map Sl.va ++ List.replicate (d.N.length - d.ar) Sl.no) with
    | rt z δ => rw [e] at q; exact fun v σ' H1 H' R s' rv => q v H1 H' ⟨R.he, R.hf, R.hs, R.hn⟩ rv
    | ro z δ => rw [e] at q; exact fun a σ' H1 H' R s' n0 ne w nw => q a H1 H' ⟨R.he, R.hf, R.hs, R.hn⟩ ne n0 w
    | nx δ => rw [e] at q; exact fun σ' H1 H' R s' => q .non H1 H' ⟨R.he, R.hf, R.hs, R.hn⟩ .non
    | rz c δ => rw [e] at q; exact fun cls dd σ' H1 H' R s' x => q cls dd H1 H' ⟨R.he, R.hf, R.hs, R.hn⟩ x
    | bk δ => rw [e] at q; exact q.elim
    | ct δ => rw [e] at q; exact q.elim
    | bad => rw [e] at q; exact q.elim
theorem ready_H {T : Tab} {d : Df} {st : Stmt} {qual nm : Str} {f : Addr} {fd : FuncData} {lv : Nat} {fns : List Fd} (F : Fun K d.name qual st f fd) (hm : mg nm = some (.ref f)) (hb : Binds K fd (d.N.take d.ar) []) (tp : Top K mg T) (hct : ct = ctOf K) (ck : d.ckH T st = true)
    (r : ∀ p ∈ fns, ReadyAtH P w K mg base ct (lv + 1) p) : ∀ p ∈ (⟨nm, d.ar, none, runD T d⟩ : Fd) :: fns, ReadyAtH P w K mg base ct (lv + 1) p := fun p hp => by
  rcases List.mem_cons.mp hp with e | e
  · subst e
    exact ⟨f, fd, _, def_okT F tp hct ck, hm, F.kp, hb⟩
  · exact r p e
theorem ready_upH {fns : List Fd} {lv : Nat} (r : ∀ p ∈ fns, ReadyAtH P w K mg base ct lv p) : ∀ p ∈ fns, ReadyAtH P w K mg base ct (lv + 1) p := fun p hp => (r p hp).up (Nat.le_succ _)
/-- one def more -/
theorem ready_cons {T : Tab} {d : Df} {st : Stmt} {qual : Str} {f : Addr} {fd : FuncData} {lv : Nat} (F : Fun K d.name qual st f fd) (hm : mg d.name = some (.ref f)) (hb : Binds K fd (d.N.take d.ar) []) (tp : Top K mg T) (hct : ct = ctOf K) (cl : ∀ p ∈ T.fns, ReadyAt P w K mg base ct lv p) (hcl : ∀ p ∈ T.hfns, ReadyAtH P w K mg base ct lv p) (ck : d.ck T st = true) :
    ∀ p ∈ (⟨d.name, d.ar, none, runD T d⟩ : Fd) :: T.fns, ReadyAt P w K mg base ct (lv + 1) p := fun p hp => by
  rcases List.mem_cons.mp hp with e | e
  · subst e
    exact ⟨f, fd, _, def_ok F tp hct cl hcl ck, hm, F.kp, hb⟩
  · exact (cl p e).up (Nat.le_succ _)
/-- an other name of a def -/
theorem ready_as {T : Tab} {d : Df} {st : Stmt} {qual nm : Str} {f : Addr} {fd : FuncData} {lv : Nat} {fns : List Fd} (F : Fun K d.name qual st f fd) (hm : mg nm = some (.ref f)) (hb : Binds K fd (d.N.take d.ar) []) (tp : Top K mg T) (hct : ct = ctOf K) (cl : ∀ p ∈ T.fns, ReadyAt P w K mg base ct lv p) (hcl : ∀ p ∈ T.hfns, ReadyAtH P w K mg base ct lv p) (ck : d.ck T st = true)
    (r : ∀ p ∈ fns, ReadyAt P w K mg base ct (lv + 1) p) : ∀ p ∈ (⟨nm, d.ar, none, runD T d⟩ : Fd) :: fns, ReadyAt P w K mg base ct (lv + 1) p := fun p hp => by
  rcases List.mem_cons.mp hp with e | e
  · subst e
    exact ⟨f, fd, _, def_ok F tp hct cl hcl ck, hm, F.kp, hb⟩
  · exact r p e
/-! ### a def that writes at one of its parameters -/
def endP (q : Nat) (r : RS) : RD :=
  match r with
  | .rt d δ => (match δ[q]? with
    | some (.pi o) => .okp d o
    | _ => .bad)
  | .ro r δ => (match δ[q]? with
    | some (.pi o) => .owp r o
    | _ => .bad)
  | .nx δ => (match δ[q]? with
    | some (.pi o) => .okp .non o
    | _ => .bad)
  | _ => .bad
def toO : D → Option O
  | .lst ds => some (.lst ds)
  | .dic ks ds => some (.dic ks ds)
  | _ => none
def runPK (T : Tab) (d : Df) (q : Nat) (ds : List D) (o : Option O) : RD :=
  match o with
  | some o => endP q (d.body.den T ((ds.map Sl.va ++ List.replicate (d.N.length - d.ar) Sl.no).set q (.pi o)))
  | none => .bad
def runP (T : Tab) (d : Df) (q : Nat) (ds : List D) : RD := runPK T d q ds (ds[q]?.bind toO)
theorem toO_own (o : O) : toO (ownD o) = some o := by cases o <;> rfl
theorem start_rlP {K : PySem.W.Frag} {H0 H : Hp} {vs : List V} {ds : List D} {N : List Str} {n q : Nat} {a : Addr} {o : O} (s : Same H0 H) (hv : vs.length = n) (hl : ds.length = n) (hq : vs[q]? = some (.ref a)) (n0 : H0 a = none) (w : OwnAt K H0 H a o)
    (r : ∀ j v d, j ≠ q → vs[j]? = some v → ds[j]? = some d → Rep K H0 v d) :
    Rl K ⟨fun b => if b = a then none else H b, H0, [(q, a)]⟩ ((ds.map Sl.va ++ List.replicate (N.length - n) Sl.no).set q (.pi o)) (L2.start N vs) H0 H := by
  have hql : q < vs.length := (List.getElem?_eq_some_iff.mp hq).1
  have sq : (L2.start N vs)[q]? = some (some (V.ref a)) := by
    unfold L2.start
    rw [List.getElem?_append_left (by rw [List.length_map]; exact hql), List.getElem?_map, hq]
    rfl
  have len : (ds.map Sl.va ++ List.replicate (N.length - n) Sl.no).length = (L2.start N vs).length := by
    unfold L2.start
    rw [List.length_append, List.length_append, List.length_map, List.length_map, List.length_replicate, List.length_replicate, hv, hl]
  have dq : ((ds.map Sl.va ++ List.replicate (N.length - n) Sl.no).set q (.pi o))[q]? = some (.pi o) := List.getElem?_set_self (by rw [List.length_append, List.length_map]; omega)
  have noOwn : ∀ (j : Nat) (t : Sl), (ds.map Sl.va ++ List.replicate (N.length - n) Sl.no)[j]? = some t → isOwn t = false := fun j t e => by
    by_cases hi : j < ds.length
    · rw [List.getElem?_append_left (by rw [List.length_map]; exact hi), List.getElem?_map, List.getElem?_eq_getElem hi] at e
      cases e; rfl
    · rw [List.getElem?_append_right (by rw [List.length_map]; omega), List.getElem?_replicate] at e
      split at e
      · cases e; rfl
      · cases e
  refine ⟨s, fun b u e => ?_, Same.refl _, fun b e => rfl, by rw [List.length_set, len], fun i t x e1 e2 => ?_, fun i j t u c ne e1 e2 o1 o2 _ _ => ?_, fun i c h => ?_⟩
  · by_cases hb : b = a
    · simp only [hb, if_true] at e; cases e
    · simp only [hb, if_false] at e; exact e
  · by_cases hi : i = q
    · subst hi
      rw [dq] at e1; cases e1
      rw [sq] at e2; cases e2
      exact ⟨a, rfl, n0, by simp, w, by simp⟩
    · rw [List.getElem?_set_ne (Ne.symm hi)] at e1
      by_cases hl2 : i < ds.length
      · rw [List.getElem?_append_left (by rw [List.length_map]; exact hl2), List.getElem?_map, List.getElem?_eq_getElem hl2] at e1
        cases e1
        have hvl : i < vs.length := by omega
        unfold L2.start at e2
        rw [List.getElem?_append_left (by rw [List.length_map]; exact hvl), List.getElem?_map, List.getElem?_eq_getElem hvl] at e2
        cases e2
        exact ⟨vs[i], rfl, r i _ _ hi (List.getElem?_eq_getElem hvl) (List.getElem?_eq_getElem hl2)⟩
      · rw [List.getElem?_append_right (by rw [List.length_map]; omega), List.getElem?_replicate] at e1
        split at e1
        · cases e1; trivial
        · cases e1
  · have key : ∀ {j : Nat} {t : Sl}, ((ds.map Sl.va ++ List.replicate (N.length - n) Sl.no).set q (.pi o))[j]? = some t → isOwn t = true → j = q := fun {j t} e ho => by
      by_cases hj : j = q
      · exact hj
      · rw [List.getElem?_set_ne (Ne.symm hj)] at e
        rw [noOwn j t e] at ho; cases ho
    exact absurd (by rw [key e1 o1, key e2 o2]) ne
  · simp only [List.mem_singleton] at h
    cases h
    exact ⟨o, dq, sq⟩
theorem def_okP {T : Tab} {d : Df} {st : Stmt} {qual : Str} {f : Addr} {fd : FuncData} {lv q : Nat} (F : Fun K d.name qual st f fd) (tp : Top K mg T) (hct : ct = ctOf K) (cl : ∀ p ∈ T.fns, ReadyAt P w K mg base ct lv p) (hcl : ∀ p ∈ T.hfns, ReadyAtH P w K mg base ct lv p) (ck : d.ck T st = true) :
    FnOk P w K mg base (L2N.CX P w) (lv + 1) f fd (d.N.take d.ar) (spP K d.ar q (runP T d q)) := by
  obtain ⟨c1, c3⟩ := of_and ck
  obtain ⟨c1, c2⟩ := of_and c1
  have c1 : d.ar ≤ d.N.length := of_decide_eq_true c1
  have sc := fnScope_ck c2
  refine okN F sc (fun vs H Q E h => ?_) (fun cdv A outer s H vs Q E hr h => ?_)
  · obtain ⟨H0, ds, a, o, _, hl, _⟩ := h
    rw [hl, List.length_take]
    omega
  · obtain ⟨H0, ds, a, o, s0, hl, hl2, hq, hdq, n0, ow, r, z⟩ := h
    have O : OkS T ⟨d.N, (defScope st).names, 0⟩ (cxOf (L2N.CX P w) P w K mg base d.N qual (defScope st) f cdv A outer s H E) ⟨fun cls dd _ H => E cls dd H, ct⟩ := by
      refine { N := rfl, nd := sc.nd, names := rfl, kind := sc.kind, calm := fun _ => rfl, hot := fun e => absurd (show (0 : Nat) = 1 from e) (by decide), hu := room65 hr, tk := ?_, call := fun _ k p e => ?_, ct := hct, exc := tp.exc, ask := tp.ask, bi := tp.bi, glo := tp.glo, ps := ?_, fn := fun _ => rfl, ex := rfl, stk := rfl, frm := rfl, hcall := fun _ k p e => ?_ }
      · exact L2N.takes_of rfl rfl rfl rfl
      · obtain ⟨f', fd', ps', F', a, b, c⟩ := cl p (List.mem_of_getElem? e)
        exact ⟨lv, f', fd', ps', F', hr, a, b, c⟩
      · exact passes_of rfl
      · obtain ⟨f', fd', ps', F', a, b, c⟩ := hcl p (List.mem_of_getElem? e)
        exact ⟨lv, f', fd', ps', F', L2H.roomH_of hr, a, b, c⟩
    refine ⟨_, d.body.ok O (defBody st) c3, ⟨fun b => if b = a then none else H b, H0, [(q, a)]⟩, _, H0, start_rlP s0 hl hl2 hq n0 ow r, ?_⟩
    have e0 : runP T d q ds = endP q (d.body.den T ((ds.map Sl.va ++ List.replicate (d.N.length - d.ar) Sl.no).set q (.pi o))) := by
      unfold runP
      rw [hdq]
      show runPK T d q ds (toO (ownD o)) = _
      rw [toO_own]
      rfl
    rw [e0] at z
    have ha : H a ≠ none := ow.some_
    -- what stands at the end
    have fin : ∀ {δ : En} {σ' : L2.St} {H1 H' : Hp} {o' : Z.O}, Rl K ⟨fun b => if b = a then none else H b, H0, [(q, a)]⟩ δ σ' H1 H' → δ[q]? = some (.pi o') → GrP a H0 H H1 H' ∧ H1 a = none ∧ OwnAt K H1 H' a o' ∧ σ'[q]? = some (some (V.ref a)) := fun {δ σ' H1 H' o'} R e => by
      obtain ⟨o2, p1, p2⟩ := R.pn q a (by simp)
      rw [e] at p1; cases p1
      obtain ⟨c, p3, m0, _, ww, _⟩ := R.sl q _ _ e p2
      cases p3
      refine ⟨⟨fun b u hb e => R.he b u (by simp only [hb, if_false]; exact e), R.hf, R.hs, fun b e => ?_⟩, m0, ww, p2⟩
      by_cases hb : b = a
      · rw [hb, m0, n0]
      · exact R.hn b (by simp only [hb, if_false]; exact e)
    cases e : d.body.den T ((ds.map Sl.va ++ List.replicate (d.N.length - d.ar) Sl.no).set q (.pi o)) with
    | rt v δ =>
      rw [e] at z
      cases eq : δ[q]? with
      | none => simp only [endP, eq] at z
      | some t =>
        cases t with
        | pi o' =>
          simp only [endP, eq] at z
          exact fun u σ' H1 H' R s' rv => by
            obtain ⟨g1, g2, g3, _⟩ := fin R eq
            exact z u H1 H' g1 g2 g3 rv
        | _ => simp only [endP, eq] at z
    | ro v δ =>
      rw [e] at z
      cases eq : δ[q]? with
      | none => simp only [endP, eq] at z
      | some t =>
        cases t with
        | pi o' =>
          simp only [endP, eq] at z
          exact fun b σ' H1 H' R s' m0 ne ww nw => by
            obtain ⟨g1, g2, g3, g4⟩ := fin R eq
            have hb : b ≠ a := fun zz => by
              subst zz
              exact nw q _ eq rfl g4
            refine z b H1 H' g1 g2 g3 ?_ m0 ww
            simp only [hb, if_false] at ne
            exact ne
        | _ => simp only [endP, eq] at z
    | nx δ =>
      rw [e] at z
      cases eq : δ[q]? with
      | none => simp only [endP, eq] at z
      | some t =>
        cases t with
        | pi o' =>
          simp only [endP, eq] at z
          exact fun σ' H1 H' R s' => by
            obtain ⟨g1, g2, g3, _⟩ := fin R eq
            exact z .non H1 H' g1 g2 g3 .non
        | _ => simp only [endP, eq] at z
    | rz c δ => rw [e] at z; exact z.elim
    | bk δ => rw [e] at z; exact z.elim
    | ct δ => rw [e] at z; exact z.elim
    | bad => rw [e] at z; exact z.elim
/-- one def more, by any name -/
theorem ready_consP {T : Tab} {d : Df} {st : Stmt} {qual nm : Str} {f : Addr} {fd : FuncData} {lv q : Nat} {fns : List Fd} (F : Fun K d.name qual st f fd) (hm : mg nm = some (.ref f)) (hb : Binds K fd (d.N.take d.ar) []) (tp : Top K mg T) (hct : ct = ctOf K) (cl : ∀ p ∈ T.fns, ReadyAt P w K mg base ct lv p) (hcl : ∀ p ∈ T.hfns, ReadyAtH P w K mg base ct lv p) (ck : d.ck T st = true)
    (r : ∀ p ∈ fns, ReadyAt P w K mg base ct (lv + 1) p) : ∀ p ∈ (⟨nm, d.ar, some q, runP T d q⟩ : Fd) :: fns, ReadyAt P w K mg base ct (lv + 1) p := fun p hp => by
  rcases List.mem_cons.mp hp with e | e
  · subst e
    exact ⟨f, fd, _, def_okP F tp hct cl hcl ck, hm, F.kp, hb⟩
  · exact r p e
theorem ready_up {fns : List Fd} {lv : Nat} (r : ∀ p ∈ fns, ReadyAt P w K mg base ct lv p) : ∀ p ∈ fns, ReadyAt P w K mg base ct (lv + 1) p := fun p hp => (r p hp).up (Nat.le_succ _)
/-! ### what the module says of the classes -/
def exTail : List Value := [.type "ValueError", .type "Exception", .type "BaseException", .type "object"]
def excCk (K : PySem.W.Frag) (qs : List Nat) (c : Nat) : Bool :=
  (PySem.W.nsIn K mainGlobals (exNm c) == some (some (.ref (ctOf K c)))) && PySem.W.keepIn K (.ref (ctOf K c)) && PySem.W.excIn K (ctOf K c) exTail "ValueError.__new__" &&
    (PySem.W.findIn K (.ref (ctOf K c)) "__getattribute__" == some (some (.builtin "BaseException.__getattribute__"))) && (PySem.W.findIn K (.ref (ctOf K c)) "__getattr__" == some none) && (PySem.W.subIn K (.ref (ctOf K c)) (.type "BaseException") == some true) &&
    PySem.W.hasDictIn K (ctOf K c) && (PySem.W.findIn K (.ref (ctOf K c)) "__class__" == some (some (.builtin "object.__class__"))) && (PySem.W.specialIn K (.builtin "object.__class__") "__get__" == some (some (.builtin "getset_descriptor.__get__"))) &&
    (PySem.W.takesIn K (.builtin "object.__class__") == some true) && (PySem.W.mroIn K (ctOf K c) (.type "object") == some true) && (PySem.W.typeIn K (.ref (ctOf K c)) == some (.type "type")) && !(exNm c == ("__debug__" : Str)) &&
    qs.all (fun d => (PySem.W.kitOne K (.ref (ctOf K c)) (clsV K d) == some (subE c d)) && (d == 15 || (PySem.W.exmOne K (.ref (ctOf K c)) (clsV K d) == some (subE c d))))
def askCk (K : PySem.W.Frag) (d : Nat) : Bool := d == 15 || ((PySem.W.nsIn K mainGlobals (exNm d) == some (some (.ref (ctOf K d)))) && !(exNm d == ("__debug__" : Str)))
def excTab (K : PySem.W.Frag) (rs qs : List Nat) : Bool := rs.all (excCk K qs) && qs.all (askCk K)
theorem exc_of {h : Heap} (X : K.In h) (G : h.Ns mainGlobals mg) {qs : List Nat} {c : Nat} (ck : excCk K qs c = true) : ExcK K mg qs c := by
  unfold excCk at ck
  obtain ⟨ck, h14⟩ := of_and ck
  obtain ⟨ck, h13⟩ := of_and ck
  obtain ⟨ck, h12⟩ := of_and ck
  obtain ⟨ck, h11⟩ := of_and ck
  obtain ⟨ck, h10⟩ := of_and ck
  obtain ⟨ck, h9⟩ := of_and ck
  obtain ⟨ck, h8⟩ := of_and ck
  obtain ⟨ck, h7⟩ := of_and ck
  obtain ⟨ck, h6⟩ := of_and ck
  obtain ⟨ck, h5⟩ := of_and ck
  obtain ⟨ck, h4⟩ := of_and ck
  obtain ⟨ck, h3⟩ := of_and ck
  obtain ⟨h1, h2⟩ := of_and ck
  have al := List.all_eq_true.mp h14
  refine ⟨PySem.W.mg_of X G (beq_iff_eq.mp h1), h2, h3, ⟨beq_iff_eq.mp h4, beq_iff_eq.mp h5, beq_iff_eq.mp h6, h7, beq_iff_eq.mp h8, beq_iff_eq.mp h9, beq_iff_eq.mp h10, beq_iff_eq.mp h11⟩, beq_iff_eq.mp h12, by rw [Bool.not_eq_true'] at h13; exact h13, fun d hd => ?_, fun d hd n => ?_⟩
  · exact beq_iff_eq.mp (of_and (al d hd)).1
  · have z := (of_and (al d hd)).2
    rw [Bool.or_eq_true] at z
    rcases z with z | z
    · exact absurd (beq_iff_eq.mp z) n
    · exact beq_iff_eq.mp z
theorem ask_of {h : Heap} (X : K.In h) (G : h.Ns mainGlobals mg) {d : Nat} (ck : askCk K d = true) (n : d ≠ 15) : mg (exNm d) = some (.ref (ctOf K d)) ∧ (exNm d == ("__debug__" : Str)) = false := by
  unfold askCk at ck
  rw [Bool.or_eq_true] at ck
  rcases ck with z | z
  · exact absurd (beq_iff_eq.mp z) n
  · obtain ⟨h1, h2⟩ := of_and z
    exact ⟨PySem.W.mg_of X G (beq_iff_eq.mp h1), by rw [Bool.not_eq_true'] at h2; exact h2⟩
theorem excs_of {h : Heap} (X : K.In h) (G : h.Ns mainGlobals mg) {rs qs : List Nat} (ck : excTab K rs qs = true) : (∀ c ∈ rs, ExcK K mg qs c) ∧ ∀ d ∈ qs, d ≠ 15 → mg (exNm d) = some (.ref (ctOf K d)) ∧ (exNm d == ("__debug__" : Str)) = false := by
  obtain ⟨h1, h2⟩ := of_and ck
  exact ⟨fun c hc => exc_of X G (List.all_eq_true.mp h1 c hc), fun d hd n => ask_of X G (List.all_eq_true.mp h2 d hd) n⟩
theorem cx_false {P : Program} {w : World} {H : Hp} {s : Shared} {e : Value} {s' : Shared} (h : L2N.CX P w [] H s (fun _ _ _ => False) e s') : False := by
  obtain ⟨_, _, _, _, _, _, _, _, _, _, _, _, z⟩ := h
  exact z
/-- the law's promise, met -/
theorem law_sp {K : PySem.W.Frag} {H : Hp} {a : Addr} {ns : List Int} {g : List D → RD} (hS : SqL K H a (ns.map V.int)) (h : g [.lst (ns.map D.int)] = .ok (.bl true)) : spD K (ctOf K) 1 g [.ref a] H (fun v _ => v = .bl true) fun _ _ _ => False := by
  refine ⟨H, [.lst (ns.map D.int)], Same.refl _, .cons (.lst hS (Reps.ints ns)) .nil, rfl, ?_⟩
  rw [h]
  exact fun v H1 H' g r => by cases r; rfl
end
end Z

namespace Z
open PySem PySem.Spec PyProof.Rows L2
/-! ### sizes -/
def B (n : Nat) (i : Int) : Prop := i.natAbs < 2 ^ n
theorem B.mono {n m : Nat} {i : Int} (h : B n i) (l : n ≤ m) : B m i := Nat.lt_of_lt_of_le h (Nat.pow_le_pow_right (by decide) l)
theorem B.add {n m : Nat} {i j : Int} (h : B n i) (k : B m j) : B (max n m + 1) (i + j) := by
  have h' := B.mono h (Nat.le_max_left n m)
  have k' := B.mono k (Nat.le_max_right n m)
  unfold B at *
  rw [Nat.pow_succ]
  omega
theorem B.sub {n m : Nat} {i j : Int} (h : B n i) (k : B m j) : B (max n m + 1) (i - j) := by
  have h' := B.mono h (Nat.le_max_left n m)
  have k' := B.mono k (Nat.le_max_right n m)
  unfold B at *
  rw [Nat.pow_succ]
  omega
theorem B.neg {n : Nat} {i : Int} (h : B n i) : B n (-i) := by unfold B at *; omega
theorem B.mul {n m : Nat} {i j : Int} (h : B n i) (k : B m j) : B (n + m) (i * j) := by
  unfold B at *
  rw [Int.natAbs_mul, Nat.pow_add]
  exact Nat.mul_lt_mul'' h k
theorem ediv_natAbs (i j : Int) (hj : 0 < j) : (i / j).natAbs ≤ i.natAbs := by
  rcases Int.lt_or_le i 0 with h | h
  · have h1 : i / j < 0 := Int.ediv_neg_of_neg_of_pos h hj
    have h2 : i ≤ i / j := by
      refine (Int.le_ediv_iff_mul_le hj).mpr ?_
      have : i * j ≤ i * 1 := Int.mul_le_mul_of_nonpos_left (Int.le_of_lt h) (by omega)
      omega
    omega
  · have h1 := Int.ediv_nonneg h (Int.le_of_lt hj)
    have h2 := Int.ediv_le_self j h
    omega
theorem fdiv_natAbs (i j : Int) : (i.fdiv j).natAbs ≤ i.natAbs := by
  rcases Int.lt_trichotomy j 0 with hj | hj | hj
  · rw [← Int.neg_fdiv_neg, Int.fdiv_eq_ediv_of_nonneg _ (by omega)]
    have := ediv_natAbs (-i) (-j) (by omega)
    omega
  · subst hj; simp
  · rw [Int.fdiv_eq_ediv_of_nonneg _ (by omega)]
    exact ediv_natAbs i j hj
theorem B.fdiv {n : Nat} {i : Int} (j : Int) (h : B n i) : B n (i.fdiv j) := Nat.lt_of_le_of_lt (fdiv_natAbs i j) h
theorem B.fmod {m : Nat} {i j : Int} (hj : j ≠ 0) (h : B m j) : B m (i.fmod j) := by
  unfold B at *
  rcases Int.lt_or_lt_of_ne hj with hn | hp
  · have e : i.fmod j = -((-i).fmod (-j)) := by rw [Int.neg_fmod_neg, Int.neg_neg]
    have h1 := Int.fmod_nonneg_of_pos (-i) (show 0 < -j by omega)
    have h2 := Int.fmod_lt_of_pos (-i) (show 0 < -j by omega)
    omega
  · have h1 := Int.fmod_nonneg_of_pos i hp
    have h2 := Int.fmod_lt_of_pos i hp
    omega
theorem B.log2 {n : Nat} {i : Int} (h : B n i) : i.natAbs.log2 ≤ n := by
  unfold B at h
  by_cases h0 : i.natAbs = 0
  · rw [h0]; simp
  · exact Nat.le_of_lt ((Nat.log2_lt h0).mpr h)
theorem mulOk_B {n m : Nat} {i j : Int} (h : B n i) (k : B m j) (l : n + m < 60000000) : mulOk i j = true := by
  unfold mulOk
  have := h.log2
  have := k.log2
  rw [decide_eq_true_eq]
  omega
theorem fmod_natAbs {i j : Int} (hj : j ≠ 0) : (i.fmod j).natAbs < j.natAbs := by
  rcases Int.lt_or_lt_of_ne hj with hn | hp
  · have e : i.fmod j = -((-i).fmod (-j)) := by rw [Int.neg_fmod_neg, Int.neg_neg]
    have h1 := Int.fmod_nonneg_of_pos (-i) (show 0 < -j by omega)
    have h2 := Int.fmod_lt_of_pos (-i) (show 0 < -j by omega)
    omega
  · have h1 := Int.fmod_nonneg_of_pos i hp
    have h2 := Int.fmod_lt_of_pos i hp
    omega
theorem gcd_fmod (i j : Int) : Int.gcd j (i.fmod j) = Int.gcd i j := by
  rw [Int.fmod_def, Int.sub_eq_add_neg, ← Int.mul_neg, Int.mul_comm, Int.gcd_add_mul_right_right, Int.gcd_comm]
theorem B.emod {m : Nat} (i : Int) {j : Int} (hj : j ≠ 0) (h : B m j) : B m (i % j) := by
  unfold B at *
  have h1 := Int.emod_nonneg i hj
  rcases Int.lt_or_lt_of_ne hj with hn | hp
  · have h2 := Int.emod_lt_of_pos i (show 0 < -j by omega)
    rw [Int.emod_neg] at h2
    omega
  · have h2 := Int.emod_lt_of_pos i hp
    omega
theorem B.ediv {n : Nat} {i : Int} (j : Int) (h : B n i) : B n (i / j) := by
  unfold B at *
  have := Int.natAbs_ediv_le_natAbs i j
  omega
theorem B.lit (i : Int) : B (i.natAbs.log2 + 1) i := Nat.lt_log2_self
theorem B.of {n : Nat} {i : Int} (h : i < 2 ^ n) (h' : -(2 ^ n) < i) : B n i := by
  unfold B
  have e : ((2 ^ n : Nat) : Int) = 2 ^ n := by simp
  omega
theorem B.le {n : Nat} {i : Int} (N : Nat) (h : i ≤ N) (h' : -(N : Int) ≤ i) (hN : N < 2 ^ n) : B n i := by
  unfold B
  exact Nat.lt_of_le_of_lt (by omega) hN
theorem B.two {n : Nat} {i : Int} (h : B n i) : i < (2 ^ n : Nat) ∧ -((2 ^ n : Nat) : Int) < i := by
  unfold B at h
  constructor <;> omega
theorem mulD_B {i j : Int} (h : mulOk i j = true) : mulD (.int i) (.int j) = some (.int (i * j)) := if_pos h
/-! ### ints compared -/
theorem eqD_int (a b : Int) : eqD (.int a) (.int b) = some (a == b) := rfl
theorem eqD_int' (a b : Int) : eqD (.int a) (.int b) = some (decide (a = b)) := by
  rw [eqD_int]; rfl
/-! ### the greatest number that divides both, by remainders -/
def gcdC : Den := dBin (COp.fn .ne) (dVar 1) (dCst (.int 0))
def gcdB : SDen := sSeq (sPar 0 1 [dVar 1, dBin modD (dVar 0) (dVar 1)]) sNil
theorem gcd_loop : ∀ (n : Nat) (a b : Int), b.natAbs < n → ∃ g : Int, whileF [] gcdC gcdB n [.va (.int a), .va (.int b)] = .nx [.va (.int g), .va (.int 0)] ∧ g.natAbs = Int.gcd a b
  | 0, a, b, h => absurd h (Nat.not_lt_zero _)
  | n + 1, a, b, h => by
    by_cases hb : b = 0
    · subst hb
      exact ⟨a, rfl, by simp⟩
    · have h1 := fmod_natAbs (i := a) hb
      obtain ⟨g, e, q⟩ := gcd_loop n b (a.fmod b) (by omega)
      refine ⟨g, ?_, by rw [q, gcd_fmod]⟩
      have c1 : gcdC [.va (.int a), .va (.int b)] = .ok (.bl true) [.va (.int a), .va (.int b)] := by
        show RE.ok (.bl (!(b == 0))) _ = _
        rw [beq_false_of_ne hb]
        rfl
      have c2 : gcdB [.va (.int a), .va (.int b)] = .nx [.va (.int b), .va (.int (a.fmod b))] := by
        simp [gcdB, sSeq, sPar, dArgs, consA, bindAA, dVar, dBin, bindE, modD, hb, ofO, stD, sNil, bindS]
      show bindTS (gcdC _) (fun k δ1 => if k then loopK [] (gcdB δ1) (whileF [] gcdC gcdB n) else .nx δ1) = _
      rw [c1]
      show loopK [] (gcdB _) (whileF [] gcdC gcdB n) = _
      rw [c2]
      exact e
end Z

namespace Z
open PySem PySem.Spec PyProof.Rows L2
/-! ### the meaning step by step, for simp: no binder is entered before its turn -/
section
variable {δ : En} {d x y : D} {fa fb fc : Den} {fs : List Den} {i j n : Nat} {b : Bool} {c : Exc}
theorem bindE_ok {k : D → En → RE} : bindE (.ok d δ) k = k d δ := rfl
theorem bindE_rz {k : D → En → RE} : bindE (.rz c δ) k = .rz c δ := rfl
theorem bindA_ok {ds : List D} {k : List D → En → RE} : bindA (.ok ds δ) k = k ds δ := rfl
theorem bindA_rz {k : List D → En → RE} : bindA (.rz c δ) k = .rz c δ := rfl
theorem consA_ok {k : D → En → RA} : consA (.ok d δ) k = k d δ := rfl
theorem consA_rz {k : D → En → RA} : consA (.rz c δ) k = .rz c δ := rfl
theorem bindAA_ok {ds : List D} {k : List D → En → RA} : bindAA (.ok ds δ) k = k ds δ := rfl
theorem bindAA_rz {k : List D → En → RA} : bindAA (.rz c δ) k = .rz c δ := rfl
theorem bindT_ok {k : Bool → En → RE} : bindT (.ok (.bl b) δ) k = k b δ := rfl
theorem bindT_rz {k : Bool → En → RE} : bindT (.rz c δ) k = .rz c δ := rfl
theorem bindS_nx {k : En → RS} : bindS (.nx δ) k = k δ := rfl
theorem bindS_rt {k : En → RS} : bindS (.rt d δ) k = .rt d δ := rfl
theorem bindS_bk {k : En → RS} : bindS (.bk δ) k = .bk δ := rfl
theorem bindS_ct {k : En → RS} : bindS (.ct δ) k = .ct δ := rfl
theorem bindS_rz {k : En → RS} : bindS (.rz c δ) k = .rz c δ := rfl
theorem bindES_ok {k : D → En → RS} : bindES (.ok d δ) k = k d δ := rfl
theorem bindES_rz {k : D → En → RS} : bindES (.rz c δ) k = .rz c δ := rfl
theorem bindTS_ok {k : Bool → En → RS} : bindTS (.ok (.bl b) δ) k = k b δ := rfl
theorem bindTS_rz {k : Bool → En → RS} : bindTS (.rz c δ) k = .rz c δ := rfl
theorem bindAF_ok {ds : List D} {k : List D → En → RF} : bindAF (.ok ds δ) k = k ds δ := rfl
theorem bindEF_ok {k : D → En → RF} : bindEF (.ok d δ) k = k d δ := rfl
theorem bindPF_ok {o : Option Int} {k : Option Int → En → RF} : bindPF (.ok o δ) k = k o δ := rfl
theorem bindP_ok {o : Option Int} {k : Option Int → En → RE} : bindP (.ok o δ) k = k o δ := rfl
theorem ofO_s : ofO (some d) δ = .ok d δ := rfl
theorem ofD_ok : ofD (.ok d) δ = .ok d δ := rfl
theorem ofD_rz : ofD (.rz c) δ = .rz c δ := rfl
-- names
def dVarK (s : Option Sl) (i : Nat) (δ : En) : RE :=
  match s with
  | some (.va d) => .ok d δ
  | some (.ow o) => .ok (ownD o) (δ.set i (.va (ownD o)))
  | _ => .bad
theorem dVar_ : dVar i δ = dVarK δ[i]? i δ := rfl
theorem dVarK_va : dVarK (some (.va d)) i δ = .ok d δ := rfl
theorem dVarK_ow {o : O} : dVarK (some (.ow o)) i δ = .ok (ownD o) (δ.set i (.va (ownD o))) := rfl
theorem ownD_l {ds : List D} : ownD (.lst ds) = .lst ds := rfl
theorem dCst_ : dCst d δ = .ok d δ := rfl
-- operators
def kBin2 (g : D → D → Option D) (x : D) : D → En → RE := fun y δ => ofO (g x y) δ
def kBin (g : D → D → Option D) (fb : Den) : D → En → RE := fun x δ => bindE (fb δ) (kBin2 g x)
theorem dBin_ {g : D → D → Option D} : dBin g fa fb δ = bindE (fa δ) (kBin g fb) := rfl
theorem kBin_ {g : D → D → Option D} : kBin g fb x δ = bindE (fb δ) (kBin2 g x) := rfl
theorem kBin2_ {g : D → D → Option D} : kBin2 g x y δ = ofO (g x y) δ := rfl
def kUn (g : D → Option D) : D → En → RE := fun x δ => ofO (g x) δ
theorem dUn_ {g : D → Option D} : dUn g fa δ = bindE (fa δ) (kUn g) := rfl
theorem kUn_ {g : D → Option D} : kUn g x δ = ofO (g x) δ := rfl
-- arguments
def kArg2 (d : D) : List D → En → RA := fun ds δ => .ok (d :: ds) δ
def kArg (fs : List Den) : D → En → RA := fun d δ => bindAA (dArgs fs δ) (kArg2 d)
theorem dArgs_n : dArgs [] δ = .ok [] δ := rfl
theorem dArgs_c : dArgs (fa :: fs) δ = consA (fa δ) (kArg fs) := rfl
theorem kArg_ : kArg fs d δ = bindAA (dArgs fs δ) (kArg2 d) := rfl
theorem kArg2_ {ds : List D} : kArg2 d ds δ = .ok (d :: ds) δ := rfl
def kTup : List D → En → RE := fun ds δ => if ds.length ≤ 1000000 then .ok (.tup ds) δ else .bad
theorem dTup_ : dTup fs δ = bindA (dArgs fs δ) kTup := rfl
theorem kTup_ {ds : List D} : kTup ds δ = if ds.length ≤ 1000000 then .ok (.tup ds) δ else .bad := rfl
def kLst : List D → En → RF := fun ds δ => if ds.length ≤ 1000000 then .ok (.lst ds) δ else .bad
theorem fLst_ : fLst fs δ = bindAF (dArgs fs δ) kLst := rfl
theorem kLst_ {ds : List D} : kLst ds δ = if ds.length ≤ 1000000 then .ok (.lst ds) δ else .bad := rfl
def frK (r : RF) : RE :=
  match r with
  | .ok o δ => .ok (ownD o) δ
  | .rz c δ => .rz c δ
  | .bad => .bad
theorem dFr_ {f : FDen} : dFr f δ = frK (f δ) := rfl
theorem frK_ok {o : O} : frK (.ok o δ) = .ok (ownD o) δ := rfl
def kBi (g : List D → Option D) : List D → En → RE := fun ds δ => ofO (g ds) δ
theorem dBi_ {g : List D → Option D} : dBi g fs δ = bindA (dArgs fs δ) (kBi g) := rfl
theorem kBi_ {g : List D → Option D} {ds : List D} : kBi g ds δ = ofO (g ds) δ := rfl
def kCall (g : List D → RD) : List D → En → RE := fun ds δ => ofD (g ds) δ
theorem dCall_ {g : List D → RD} : dCall g fs δ = bindA (dArgs fs δ) (kCall g) := rfl
theorem kCall_ {g : List D → RD} {ds : List D} : kCall g ds δ = ofD (g ds) δ := rfl
-- and, or
def kAnd (fb : Den) : Bool → En → RE := fun b δ => if b then fb δ else .ok (.bl false) δ
def kOr (fb : Den) : Bool → En → RE := fun b δ => if b then .ok (.bl true) δ else fb δ
theorem dAnd_ : dAnd fa fb δ = bindT (fa δ) (kAnd fb) := rfl
theorem dOr_ : dOr fa fb δ = bindT (fa δ) (kOr fb) := rfl
theorem kAnd_ : kAnd fb b δ = if b = true then fb δ else .ok (.bl false) δ := rfl
theorem kOr_ : kOr fb b δ = if b = true then .ok (.bl true) δ else fb δ := rfl
theorem dAnds_1 : dAnds [fa] = fa := rfl
theorem dAnds_2 : dAnds (fa :: fb :: fs) = dAnd fa (dAnds (fb :: fs)) := rfl
theorem dOrs_1 : dOrs [fa] = fa := rfl
theorem dOrs_2 : dOrs (fa :: fb :: fs) = dOr fa (dOrs (fb :: fs)) := rfl
def kIte (fa fb : Den) : Bool → En → RE := fun b δ => if b then fa δ else fb δ
theorem dIte_ : dIte fc fa fb δ = bindT (fc δ) (kIte fa fb) := rfl
theorem kIte_ : kIte fa fb b δ = if b = true then fa δ else fb δ := rfl
-- statements
section
variable {f g : SDen}
theorem sSeq_ : sSeq f g δ = bindS (f δ) g := rfl
theorem sNil_ : sNil δ = .nx δ := rfl
theorem sPass_ : sPass δ = .nx δ := rfl
theorem sBrk_ : sBrk δ = .bk δ := rfl
theorem sCnt_ : sCnt δ = .ct δ := rfl
theorem sRetN_ : sRetN δ = .rt .non δ := rfl
def kRet : D → En → RS := fun d δ => .rt d δ
theorem sRet_ : sRet fa δ = bindES (fa δ) kRet := rfl
theorem kRet_ : kRet d δ = .rt d δ := rfl
def kExp : D → En → RS := fun _ δ => .nx δ
theorem sExp_ : sExp fa δ = bindES (fa δ) kExp := rfl
theorem kExp_ : kExp d δ = .nx δ := rfl
def kIf (f g : SDen) : Bool → En → RS := fun b δ => if b then f δ else g δ
theorem sIf_ : sIf fc f g δ = bindTS (fc δ) (kIf f g) := rfl
theorem kIf_ : kIf f g b δ = if b = true then f δ else g δ := rfl
def nxO (o : Option En) : RS := match o with
  | some δ => .nx δ
  | none => .bad
theorem nxO_s : nxO (some δ) = .nx δ := rfl
def kAsg (g : D → En → Option En) : D → En → RS := fun d δ => nxO (g d δ)
theorem sAsg_ {g : D → En → Option En} : sAsg g fa δ = bindES (fa δ) (kAsg g) := by
  unfold sAsg kAsg nxO
  congr 1
theorem kAsg_ {g : D → En → Option En} : kAsg g d δ = nxO (g d δ) := rfl
def stK (s : Option Sl) (i : Nat) (d : D) (δ : En) : Option En :=
  match s with
  | some (.pi _) => none
  | some _ => some (δ.set i (.va d))
  | none => none
theorem stD_ : stD i d δ = stK δ[i]? i d δ := by
  unfold stD stK
  cases δ[i]? with
  | none => rfl
  | some s => cases s <;> rfl
theorem stK_no : stK (some .no) i d δ = some (δ.set i (.va d)) := rfl
theorem stK_va : stK (some (.va x)) i d δ = some (δ.set i (.va d)) := rfl
theorem stK_ow {o : O} : stK (some (.ow o)) i d δ = some (δ.set i (.va d)) := rfl
theorem tgv : Tg.st (.var i) d δ = stD i d δ := rfl
theorem tgt {is : List Nat} {ds : List D} : Tg.st (.tup is) (.tup ds) δ = stDs is ds δ := rfl
theorem tgl {is : List Nat} {ds : List D} : Tg.st (.tup is) (.lst ds) δ = stDs is ds δ := rfl
theorem tgnt {iss : List (List Nat)} {ds : List D} : Tg.st (.nst iss) (.tup ds) δ = stNs iss ds δ := rfl
theorem tgnl {iss : List (List Nat)} {ds : List D} : Tg.st (.nst iss) (.lst ds) δ = stNs iss ds δ := rfl
theorem stNs_n : stNs [] [] δ = some δ := rfl
theorem stNs_c {is : List Nat} {iss : List (List Nat)} {d : D} {ds : List D} : stNs (is :: iss) (d :: ds) δ = (stT is d δ).bind (stNs iss ds) := rfl
theorem stT_t {is : List Nat} {ds : List D} : stT is (.tup ds) δ = stDs is ds δ := rfl
theorem stT_l {is : List Nat} {ds : List D} : stT is (.lst ds) δ = stDs is ds δ := rfl
theorem stDs_n : stDs [] [] δ = some δ := rfl
theorem stDs_c {is : List Nat} {ds : List D} : stDs (i :: is) (d :: ds) δ = (stD i d δ).bind (stDs is ds) := rfl
def kPar (i j : Nat) : RA → RS
  | .ok [d, e] δ => (stD i d δ).bind (stD j e) |> nxO
  | .rz c δ => .rz c δ
  | _ => .bad
theorem sPar_ : sPar i j fs δ = kPar i j (dArgs fs δ) := by
  unfold sPar kPar
  cases dArgs fs δ with
  | rz c δ1 => rfl
  | bad => rfl
  | ok ds δ1 =>
    match ds with
    | [] => rfl
    | [_] => rfl
    | _ :: _ :: _ :: _ => rfl
    | [d, e] =>
      dsimp only
      cases stD i d δ1 with
      | none => rfl
      | some δ2 =>
        dsimp only [Option.bind]
        cases stD j e δ2 <;> rfl
theorem kPar_ok {d e : D} : kPar i j (.ok [d, e] δ) = nxO ((stD i d δ).bind (stD j e)) := rfl
theorem kPar_rz : kPar i j (.rz c δ) = .rz c δ := rfl
def ownK (s : Option Sl) (i : Nat) (o : O) (δ : En) : RS :=
  match s with
  | some (.pi _) => .bad
  | some _ => .nx (δ.set i (.ow o))
  | none => .bad
def kOwn (i : Nat) : RF → RS
  | .ok o δ => ownK δ[i]? i o δ
  | .rz c δ => .rz c δ
  | .bad => .bad
theorem sOwn_ {f : FDen} : sOwn i f δ = kOwn i (f δ) := by
  unfold sOwn kOwn ownK
  cases f δ with
  | ok o δ1 =>
    dsimp only
    all_goals (cases δ1[i]? with
    | none => rfl
    | some s => cases s <;> rfl)
  | rz c δ1 => rfl
  | bad => rfl
theorem kOwn_ok {o : O} : kOwn i (.ok o δ) = ownK δ[i]? i o δ := rfl
theorem kOwn_rz : kOwn i (.rz c δ) = .rz c δ := rfl
theorem ownK_no {o : O} : ownK (some .no) i o δ = .nx (δ.set i (.ow o)) := rfl
theorem ownK_va {o : O} : ownK (some (.va x)) i o δ = .nx (δ.set i (.ow o)) := rfl
theorem ownK_ow {o p : O} : ownK (some (.ow p)) i o δ = .nx (δ.set i (.ow o)) := rfl
theorem sOwnC_ {f : En → RC} : sOwnC i f δ = setCK i (f δ) := rfl
theorem sRetC_ {f : En → RC} : sRetC f δ = retCK (f δ) := rfl
def kCallC (g : List D → RD) : List D → En → RC := fun ds δ => ofDC (g ds) δ
theorem cCall_ {g : List D → RD} : cCall g fs δ = bindAC (dArgs fs δ) (kCallC g) := rfl
theorem kCallC_ {g : List D → RD} {ds : List D} : kCallC g ds δ = ofDC (g ds) δ := rfl
theorem bindAC_ok {k : List D → En → RC} {ds : List D} : bindAC (.ok ds δ) k = k ds δ := rfl
theorem bindAC_rz {k : List D → En → RC} : bindAC (.rz c δ) k = .e (.rz c δ) := rfl
theorem ofDC_ok {d : D} : ofDC (.ok d) δ = .e (.ok d δ) := rfl
theorem ofDC_ow {o : O} : ofDC (.ow o) δ = .f (.ok o δ) := rfl
theorem ofDC_rz : ofDC (.rz c) δ = .e (.rz c δ) := rfl
theorem setCK_e {d : D} : setCK i (.e (.ok d δ)) = setC δ[i]? i (.va d) δ := rfl
theorem setCK_f {o : O} : setCK i (.f (.ok o δ)) = setC δ[i]? i (.ow o) δ := rfl
theorem setCK_r : setCK i (.e (.rz c δ)) = .rz c δ := rfl
theorem setC_no {z : Sl} : setC (some .no) i z δ = .nx (δ.set i z) := rfl
theorem setC_va {z : Sl} : setC (some (.va x)) i z δ = .nx (δ.set i z) := rfl
theorem setC_ow {z : Sl} {o : O} : setC (some (.ow o)) i z δ = .nx (δ.set i z) := rfl
theorem retCK_e {d : D} : retCK (.e (.ok d δ)) = .rt d δ := rfl
theorem retCK_f {o : O} : retCK (.f (.ok o δ)) = .ro o δ := rfl
theorem retCK_r : retCK (.e (.rz c δ)) = .rz c δ := rfl
theorem fListB_ : fListB i δ = listBK δ[i]? δ := rfl
theorem listBK_va {ds : List D} : listBK (some (.va (.lst ds))) δ = .ok (.lst ds) δ := rfl
theorem listBK_vt {ds : List D} : listBK (some (.va (.tup ds))) δ = .ok (.lst ds) δ := rfl
theorem listBK_ow {ds : List D} : listBK (some (.ow (.lst ds))) δ = .ok (.lst ds) δ := rfl
theorem isD_l {n : Bool} {ds : List D} : isD n (.lst ds) .non = some (.bl n) := rfl
def nstS (s : Option Sl) (i : Nat) (g : D → En → Option En) (l : List (Nat × Den)) (n : Nat) (r : RE) : RS := match s with
  | none => .bad
  | some (.pi _) => .bad
  | some _ => nstK i g l n r
theorem sNst_ {g : D → En → Option En} {fi : Den} {l : List (Nat × Den)} {n : Nat} : sNst i g fi l n δ = nstS δ[i]? i g l n (fi (δ.set i .no)) := by
  unfold sNst nstS
  rfl
theorem nstS_no {g : D → En → Option En} {l : List (Nat × Den)} {n : Nat} {r : RE} : nstS (some .no) i g l n r = nstK i g l n r := rfl
theorem nstS_va {g : D → En → Option En} {l : List (Nat × Den)} {n : Nat} {r : RE} : nstS (some (.va x)) i g l n r = nstK i g l n r := rfl
theorem nstK_l {g : D → En → Option En} {l : List (Nat × Den)} {n : Nat} {ds : List D} : nstK i g l n (.ok (.lst ds) δ) = nstF i g l ds (List.replicate n []) δ := rfl
theorem nstF_n {g : D → En → Option En} {l : List (Nat × Den)} {dss : List (List D)} : nstF i g l [] dss δ = setC δ[i]? i (.va (.lst (dss.map .lst))) δ := rfl
def nstG (i : Nat) (g : D → En → Option En) (l : List (Nat × Den)) (ds : List D) : Option (En × List (List D)) → RS
  | some p => nstF i g l ds p.2 p.1
  | none => .bad
def nstH (i : Nat) (g : D → En → Option En) (l : List (Nat × Den)) (ds : List D) (dss : List (List D)) : Option En → RS
  | some δ1 => nstG i g l ds (apsF l δ1 dss)
  | none => .bad
theorem nstF_c {g : D → En → Option En} {l : List (Nat × Den)} {d : D} {ds : List D} {dss : List (List D)} : nstF i g l (d :: ds) dss δ = nstH i g l ds dss (g d δ) := by
  unfold nstF nstH nstG
  cases g d δ with
  | none => rfl
  | some δ1 =>
    dsimp only
    cases apsF l δ1 dss with
    | none => rfl
    | some p => rfl
theorem nstH_s {g : D → En → Option En} {l : List (Nat × Den)} {ds : List D} {dss : List (List D)} : nstH i g l ds dss (some δ) = nstG i g l ds (apsF l δ dss) := rfl
theorem nstG_s {g : D → En → Option En} {l : List (Nat × Den)} {ds : List D} {dss : List (List D)} : nstG i g l ds (some (δ, dss)) = nstF i g l ds dss δ := rfl
def apsJ (s : Option (List D)) (k : Nat) (r : List (Nat × Den)) (dss : List (List D)) (d : D) (δ : En) : Option (En × List (List D)) := match s with
  | some ds => if ds.length < 1000000 then apsF r δ (dss.set k (ds ++ [d])) else none
  | none => none
def apsK (k : Nat) (r : List (Nat × Den)) (dss : List (List D)) : RE → Option (En × List (List D))
  | .ok d δ => apsJ dss[k]? k r dss d δ
  | _ => none
theorem apsF_n {dss : List (List D)} : apsF [] δ dss = some (δ, dss) := rfl
theorem apsF_c {k : Nat} {f : Den} {r : List (Nat × Den)} {dss : List (List D)} : apsF ((k, f) :: r) δ dss = apsK k r dss (f δ) := by
  unfold apsK apsJ
  show (match f δ, dss[k]? with
    | .ok d δ', some ds => if ds.length < 1000000 then apsF r δ' (dss.set k (ds ++ [d])) else none
    | _, _ => none) = _
  cases f δ with
  | ok d δ1 => cases dss[k]? <;> rfl
  | rz c δ1 => rfl
  | bad => rfl
theorem apsK_ok {k : Nat} {r : List (Nat × Den)} {dss : List (List D)} {d : D} : apsK k r dss (.ok d δ) = apsJ dss[k]? k r dss d δ := rfl
theorem apsJ_s {k : Nat} {r : List (Nat × Den)} {dss : List (List D)} {d : D} {ds : List D} (h : ds.length < 1000000) : apsJ (some ds) k r dss d δ = apsF r δ (dss.set k (ds ++ [d])) := if_pos h
def augK (o : Bool) (i : Nat) (x : D) : D → En → RS := fun d δ => nxO ((augD o x d).bind fun z => stD i z δ)
def augS (s : Option Sl) (i : Nat) (o : Bool) (f : Den) (δ : En) : RS :=
  match s with
  | some (.va x) => bindES (f δ) (augK o i x)
  | _ => .bad
theorem sAug_ {o : Bool} : sAug i o fa δ = augS δ[i]? i o fa δ := by
  unfold sAug augS
  cases δ[i]? with
  | none => rfl
  | some s =>
    cases s with
    | va x =>
      dsimp only
      congr 1
      funext d δ1
      unfold augK
      cases augD o x d with
      | none => rfl
      | some z =>
        dsimp only [Option.bind]
        cases stD i z δ1 <;> rfl
    | _ => rfl
theorem augS_va {o : Bool} : augS (some (.va x)) i o fa δ = bindES (fa δ) (augK o i x) := rfl
theorem augK_i {o : Bool} {a b : Int} : augK o i (.int a) (.int b) δ = nxO (stD i (.int (if o = true then a + b else a - b)) δ) := rfl
end
-- loops
theorem loopK_nx {ws : List Nat} {k : En → RS} : loopK ws (.nx δ) k = k (fgt ws δ) := rfl
theorem loopK_ct {ws : List Nat} {k : En → RS} : loopK ws (.ct δ) k = k (fgt ws δ) := rfl
theorem loopK_bk {ws : List Nat} {k : En → RS} : loopK ws (.bk δ) k = .nx δ := rfl
theorem loopK_rt {ws : List Nat} {k : En → RS} : loopK ws (.rt d δ) k = .rt d δ := rfl
theorem loopK_rz {ws : List Nat} {k : En → RS} : loopK ws (.rz c δ) k = .rz c δ := rfl
def fgK (s : Option Sl) (i : Nat) (δ : En) : En :=
  match s with
  | some (.pi _) => δ
  | _ => δ.set i .no
theorem fgt_n : fgt [] δ = δ := rfl
theorem fgt_c {ws : List Nat} : fgt (i :: ws) δ = fgt ws (fgK δ[i]? i δ) := by
  show fgt ws (fgt1 δ i) = _
  congr 1
theorem fgK_no : fgK (some .no) i δ = δ.set i .no := rfl
theorem fgK_va : fgK (some (.va x)) i δ = δ.set i .no := rfl
theorem fgK_ow {o : O} : fgK (some (.ow o)) i δ = δ.set i .no := rfl
def kFor (ws : List Nat) (g : D → En → Option En) (b : SDen) : RI → RS
  | .ok ds δ => forF ws g b ds (fgt ws δ)
  | .rz c δ => .rz c δ
  | .bad => .bad
theorem sFor_ {ws : List Nat} {fi : En → RI} {g : D → En → Option En} {b : SDen} : sFor ws fi g b δ = kFor ws g b (fi δ) := by
  unfold sFor kFor
  cases fi δ <;> rfl
theorem kFor_ok {ws : List Nat} {ds : List D} {g : D → En → Option En} {b : SDen} : kFor ws g b (.ok ds δ) = forF ws g b ds (fgt ws δ) := rfl
theorem sWhl_ {ws : List Nat} {n : En → Nat} {b : SDen} : sWhl ws n fc b δ = whileF ws fc b (n δ) δ := rfl
def seqK : RE → RI
  | .ok d δ => (match seqOf d with
    | some ds => .ok ds δ
    | none => .bad)
  | .rz c δ => .rz c δ
  | .bad => .bad
theorem iSeq_ : iSeq fa δ = seqK (fa δ) := by
  unfold iSeq seqK
  cases fa δ <;> rfl
theorem seqK_l {ds : List D} : seqK (.ok (.lst ds) δ) = .ok ds δ := rfl
theorem seqK_t {ds : List D} : seqK (.ok (.tup ds) δ) = .ok ds δ := rfl
def rngK : RA → RI
  | .ok ds δ => (match rngL ds with
    | some es => .ok es δ
    | none => .bad)
  | .rz c δ => .rz c δ
  | .bad => .bad
theorem iRng_ : iRng fs δ = rngK (dArgs fs δ) := by
  unfold iRng rngK
  cases dArgs fs δ <;> rfl
theorem rngK_1 {k : Int} (h : rngOk k = true) : rngK (.ok [.int k] δ) = .ok (rngD 0 k.toNat) δ := by
  show (match (if rngOk k then some (rngD 0 k.toNat) else none) with | some es => RI.ok es δ | none => .bad) = _
  rw [if_pos h]
theorem rngK_2 {k l : Int} (h : rngOk k = true) (h' : rngOk l = true) : rngK (.ok [.int k, .int l] δ) = .ok (rngD k (l - k).toNat) δ := by
  show (match (if rngOk k && rngOk l then some (rngD k (l - k).toNat) else none) with | some es => RI.ok es δ | none => .bad) = _
  rw [h, h']
  rfl
theorem rngOk_of {k : Int} (h : -(2 ^ 62) ≤ k) (h' : k < 2 ^ 62) : rngOk k = true := by
  unfold rngOk
  rw [decide_eq_true h, decide_eq_true h']
  rfl
-- what a frame owns
def peekK (s : Option Sl) : Option D :=
  match s with
  | some (.va d) => some d
  | some (.ow o) => some (ownD o)
  | some (.pi o) => some (ownD o)
  | _ => none
theorem peek_ : peek δ i = peekK δ[i]? := rfl
theorem peekK_va : peekK (some (.va d)) = some d := rfl
theorem peekK_ow {o : O} : peekK (some (.ow o)) = some (ownD o) := rfl
def bKK (o : Option D) (g : D → D → Option D) (y : D) (δ : En) : RE :=
  match o with
  | some d => (match g d y with
    | some (.bl b) => .ok (.bl b) δ
    | _ => .bad)
  | none => .bad
def kCmpB (g : D → D → Option D) (i : Nat) : D → En → RE := fun y δ => bKK (peek δ i) g y δ
def cmpBK (o : Option D) (r : RE) (k : D → En → RE) : RE := match o with
  | some _ => bindE r k
  | none => .bad
theorem dCmpB_ {g : D → D → Option D} : dCmpB g i fb δ = cmpBK (peek δ i) (fb δ) (kCmpB g i) := rfl
theorem cmpBK_s {r : RE} {k : D → En → RE} : cmpBK (some d) r k = bindE r k := rfl
theorem kCmpB_ {g : D → D → Option D} : kCmpB g i y δ = bKK (peek δ i) g y δ := rfl
theorem bKK_s {g : D → D → Option D} (h : g d y = some (.bl b)) : bKK (some d) g y δ = .ok (.bl b) δ := by
  unfold bKK
  simp only [h]
def ixKK (s : Option Sl) (k : D) (δ1 : En) : RE :=
  match s with
  | some (.va d) => ofO (idxD d k) δ1
  | some (.ow (.lst ds)) => (match k with
    | .int k => ofO (atI ds k) δ1
    | _ => .bad)
  | some (.pi (.lst ds)) => (match k with
    | .int k => ofO (atI ds k) δ1
    | _ => .bad)
  | _ => .bad
def kIxO (i : Nat) : D → En → RE := fun k δ => ixKK δ[i]? k δ
theorem dIxO_ : dIxO i fb δ = cmpBK (peek δ i) (fb δ) (kIxO i) := rfl
theorem kIxO_ : kIxO i y δ = ixKK δ[i]? y δ := rfl
theorem ixKK_va : ixKK (some (.va d)) y δ = ofO (idxD d y) δ := rfl
theorem ixKK_ow {ds : List D} {k : Int} : ixKK (some (.ow (.lst ds))) (.int k) δ = ofO (atI ds k) δ := rfl
def lenK (o : Option D) (δ : En) : RE := match o with
  | some d => ofO (lenL [d]) δ
  | none => .bad
theorem dLenO_ : dLenO i δ = lenK (peek δ i) δ := rfl
def indK (s : Option Sl) (r : RE) : RE := match s with
  | some (.va (.lst ds)) => bindE r (kInd ds)
  | _ => .bad
theorem dInd_ {f : Den} : dInd i f δ = indK (δ[i]?) (f δ) := rfl
theorem indK_l {ds : List D} {r : RE} : indK (some (.va (.lst ds))) r = bindE r (kInd ds) := rfl
theorem kInd_ {ds : List D} {e : D} : kInd ds e δ = ofO (indD ds e) δ := rfl
theorem lenK_s : lenK (some d) δ = ofO (lenL [d]) δ := rfl
def appK (s : Option Sl) (i : Nat) (d : D) (δ : En) : RS :=
  match s with
  | some (.ow (.lst ds)) => if ds.length < 1000000 then .nx (δ.set i (.ow (.lst (ds ++ [d])))) else .bad
  | some (.pi (.lst ds)) => if ds.length < 1000000 then .nx (δ.set i (.pi (.lst (ds ++ [d])))) else .bad
  | _ => .bad
def kApp (i : Nat) : D → En → RS := fun d δ => appK δ[i]? i d δ
def appS (s : Option Sl) (r : RE) (k : D → En → RS) : RS :=
  match s with
  | some (.ow (.lst _)) => bindES r k
  | some (.pi (.lst _)) => bindES r k
  | _ => .bad
def extK (i : Nat) (r : RF) : RS := match r with
  | .ok (.lst zs) δ1 => (match ownAt δ1 i with
    | some (.lst ds) => if ds.length + zs.length ≤ 1000000 then .nx (setOwn δ1 i (.lst (ds ++ zs))) else .bad
    | _ => .bad)
  | .ok _ _ => .bad
  | .rz c δ1 => .rz c δ1
  | .bad => .bad
def extKK (s : Option Sl) (i : Nat) (zs : List D) (δ : En) : RS := match s with
  | some (.ow (.lst ds)) => if ds.length + zs.length ≤ 1000000 then .nx (δ.set i (.ow (.lst (ds ++ zs)))) else .bad
  | some (.pi (.lst ds)) => if ds.length + zs.length ≤ 1000000 then .nx (δ.set i (.pi (.lst (ds ++ zs)))) else .bad
  | _ => .bad
def extR (i : Nat) (r : RF) : RS := match r with
  | .ok (.lst zs) δ1 => extKK δ1[i]? i zs δ1
  | .ok _ _ => .bad
  | .rz c δ1 => .rz c δ1
  | .bad => .bad
def extS (s : Option Sl) (i : Nat) (r : RF) : RS := match s with
  | some (.ow (.lst _)) => extR i r
  | some (.pi (.lst _)) => extR i r
  | _ => .bad
theorem sExt2_ {f : FDen} : sExt i f δ = extS δ[i]? i (f δ) := by
  have key : ∀ (zs : List D) (δ1 : En), (match ownAt δ1 i with
      | some (.lst ds) => if ds.length + zs.length ≤ 1000000 then RS.nx (setOwn δ1 i (.lst (ds ++ zs))) else .bad
      | _ => .bad) = extKK δ1[i]? i zs δ1 := by
    intro zs δ1
    unfold extKK ownAt setOwn
    cases δ1[i]? with
    | none => rfl
    | some s =>
      cases s with
      | ow o => cases o <;> rfl
      | pi o => cases o <;> rfl
      | _ => rfl
  unfold sExt extS extR
  have e : ownAt δ i = (match δ[i]? with | some (.ow o) => some o | some (.pi o) => some o | _ => none) := by
    unfold ownAt
    cases δ[i]? with
    | none => rfl
    | some s => cases s <;> rfl
  cases h : δ[i]? with
  | none => rw [e, h]
  | some s =>
    rw [e, h]
    cases s with
    | ow o =>
      cases o with
      | lst ds =>
        dsimp only
        cases f δ with
        | ok o δ1 => cases o with
          | lst zs => exact key zs δ1
          | dic _ _ => rfl
        | rz c δ1 => rfl
        | bad => rfl
      | dic _ _ => rfl
    | pi o =>
      cases o with
      | lst ds =>
        dsimp only
        cases f δ with
        | ok o δ1 => cases o with
          | lst zs => exact key zs δ1
          | dic _ _ => rfl
        | rz c δ1 => rfl
        | bad => rfl
      | dic _ _ => rfl
    | va d => rfl
    | no => rfl
theorem extS_ow {ds : List D} {r : RF} : extS (some (.ow (.lst ds))) i r = extR i r := rfl
theorem extS_pi {ds : List D} {r : RF} : extS (some (.pi (.lst ds))) i r = extR i r := rfl
theorem extR_ok {zs : List D} : extR i (.ok (.lst zs) δ) = extKK δ[i]? i zs δ := rfl
theorem extR_rz : extR i (.rz c δ) = .rz c δ := rfl
theorem extKK_ow {ds zs : List D} : extKK (some (.ow (.lst ds))) i zs δ = if ds.length + zs.length ≤ 1000000 then .nx (δ.set i (.ow (.lst (ds ++ zs)))) else .bad := rfl
theorem extKK_pi {ds zs : List D} : extKK (some (.pi (.lst ds))) i zs δ = if ds.length + zs.length ≤ 1000000 then .nx (δ.set i (.pi (.lst (ds ++ zs)))) else .bad := rfl
theorem sApp_ : sApp i fa δ = appS δ[i]? (fa δ) (kApp i) := by
  have key : (fun d δ1 => match ownAt δ1 i with
      | some (.lst ds) => if ds.length < 1000000 then RS.nx (setOwn δ1 i (.lst (ds ++ [d]))) else .bad
      | _ => .bad) = kApp i := by
    funext d δ1
    unfold kApp appK ownAt setOwn
    cases δ1[i]? with
    | none => rfl
    | some s =>
      cases s with
      | ow o => cases o <;> rfl
      | pi o => cases o <;> rfl
      | _ => rfl
  rw [← key]
  unfold sApp appS
  have e : ownAt δ i = (match δ[i]? with
    | some (.ow o) => some o
    | some (.pi o) => some o
    | _ => none) := rfl
  rw [e]
  cases δ[i]? with
  | none => rfl
  | some s =>
    cases s with
    | ow o => cases o <;> rfl
    | pi o => cases o <;> rfl
    | _ => rfl
theorem appS_ow {ds : List D} {r : RE} {k : D → En → RS} : appS (some (.ow (.lst ds))) r k = bindES r k := rfl
theorem kApp_ : kApp i d δ = appK δ[i]? i d δ := rfl
theorem appK_ow {ds : List D} (h : ds.length < 1000000) : appK (some (.ow (.lst ds))) i d δ = .nx (δ.set i (.ow (.lst (ds ++ [d])))) := if_pos h
def subO (s : Option Sl) (i : Nat) (d k : D) (δ : En) : RS :=
  match k, s with
  | .int k, some (.ow (.lst ds)) => (match ixN ds.length k with
    | some j => .nx (δ.set i (.ow (.lst (ds.set j d))))
    | none => .bad)
  | .int k, some (.pi (.lst ds)) => (match ixN ds.length k with
    | some j => .nx (δ.set i (.pi (.lst (ds.set j d))))
    | none => .bad)
  | _, _ => .bad
def kSub2 (i : Nat) (d : D) : D → En → RS := fun k δ => subO δ[i]? i d k δ
def kSub (i : Nat) (fi : Den) : D → En → RS := fun d δ => appS δ[i]? (fi δ) (kSub2 i d)
theorem sSub_ {fi : Den} : sSub i fi fa δ = bindES (fa δ) (kSub i fi) := by
  unfold sSub
  congr 1
  funext d δ1
  have key : (fun k δ2 => subK i d k δ2) = kSub2 i d := by
    funext k δ2
    unfold kSub2 subO subK ownAt setOwn
    cases k with
    | int k =>
      cases δ2[i]? with
      | none => rfl
      | some s =>
        cases s with
        | ow o => cases o <;> rfl
        | pi o => cases o <;> rfl
        | _ => rfl
    | _ =>
      cases δ2[i]? with
      | none => rfl
      | some s =>
        cases s with
        | ow o => cases o <;> rfl
        | pi o => cases o <;> rfl
        | _ => rfl
  unfold kSub appS
  rw [← key]
  cases h : δ1[i]? with
  | none => simp only [ownAt, h]
  | some s =>
    cases s with
    | ow o => cases o <;> simp only [ownAt, h]
    | pi o => cases o <;> simp only [ownAt, h]
    | _ => simp only [ownAt, h]
theorem kSub_ {fi : Den} : kSub i fi d δ = appS δ[i]? (fi δ) (kSub2 i d) := rfl
theorem kSub2_ : kSub2 i d y δ = subO δ[i]? i d y δ := rfl
theorem subO_ow {ds : List D} {k : Int} {j : Nat} (h : ixN ds.length k = some j) : subO (some (.ow (.lst ds))) i d (.int k) δ = .nx (δ.set i (.ow (.lst (ds.set j d)))) := by
  show (match ixN ds.length k with | some j => RS.nx (δ.set i (.ow (.lst (ds.set j d)))) | none => .bad) = _
  rw [h]
-- slices
def partK : RE → RP
  | .ok (.int i) δ => .ok (some i) δ
  | .rz c δ => .rz c δ
  | _ => .bad
theorem dPart_n : dPart none δ = .ok none δ := rfl
theorem dPart_s : dPart (some fa) δ = partK (fa δ) := by
  show (match fa δ with
    | .ok (.int i) δ => RP.ok (some i) δ
    | .rz c δ => .rz c δ
    | _ => .bad) = _
  unfold partK
  cases fa δ with
  | ok d δ1 => cases d <;> rfl
  | _ => rfl
theorem partK_i {a : Int} : partK (.ok (.int a) δ) = .ok (some a) δ := rfl
def kCut3 (d : D) (l : Option Int) : Option Int → En → RE := fun u δ => ofO (slD d l u) δ
def kCut2 (d : D) (hi : Option Den) : Option Int → En → RE := fun l δ => bindP (dPart hi δ) (kCut3 d l)
def kCut (lo hi : Option Den) : D → En → RE := fun d δ => bindP (dPart lo δ) (kCut2 d hi)
theorem dCut_ {lo hi : Option Den} : dCut fa lo hi δ = bindE (fa δ) (kCut lo hi) := rfl
theorem kCut_ {lo hi : Option Den} : kCut lo hi d δ = bindP (dPart lo δ) (kCut2 d hi) := rfl
theorem kCut2_ {hi : Option Den} {l : Option Int} : kCut2 d hi l δ = bindP (dPart hi δ) (kCut3 d l) := rfl
theorem kCut3_ {l u : Option Int} : kCut3 d l u δ = ofO (slD d l u) δ := rfl
theorem slD_l {ds : List D} {l u : Option Int} : slD (.lst ds) l u = some (.lst (cutG ds l u)) := rfl
def kFC3 (d : D) (l u : Option Int) (δ : En) : RF := match d with
  | .lst ds => .ok (.lst (cutG ds l u)) δ
  | _ => .bad
def kFC2 (d : D) (l : Option Int) : Option Int → En → RF := fun u δ => kFC3 d l u δ
def kFC1 (d : D) (hi : Option Den) : Option Int → En → RF := fun l δ => bindPF (dPart hi δ) (kFC2 d l)
def kFC (lo hi : Option Den) : D → En → RF := fun d δ => bindPF (dPart lo δ) (kFC1 d hi)
theorem fCut_ {lo hi : Option Den} : fCut fa lo hi δ = bindEF (fa δ) (kFC lo hi) := rfl
theorem kFC_ {lo hi : Option Den} : kFC lo hi d δ = bindPF (dPart lo δ) (kFC1 d hi) := rfl
theorem kFC1_ {hi : Option Den} {l : Option Int} : kFC1 d hi l δ = bindPF (dPart hi δ) (kFC2 d l) := rfl
theorem kFC2_ {l u : Option Int} : kFC2 d l u δ = kFC3 d l u δ := rfl
theorem kFC3_l {ds : List D} {l u : Option Int} : kFC3 (.lst ds) l u δ = .ok (.lst (cutG ds l u)) δ := rfl
def kSt4 (d : D) (l u c : Option Int) (δ : En) : RF := match d with
  | .lst ds => stpK ds l u c δ
  | _ => .bad
def kSt3 (d : D) (st : Option Den) (l u : Option Int) (δ : En) : RF := bindPF (dPart st δ) (kSt4 d l u)
def kSt2 (d : D) (hi st : Option Den) (l : Option Int) (δ : En) : RF := bindPF (dPart hi δ) (kSt3 d st l)
def kSt1 (lo hi st : Option Den) (d : D) (δ : En) : RF := bindPF (dPart lo δ) (kSt2 d hi st)
theorem fStp_ {lo hi st : Option Den} : fStp fa lo hi st δ = bindEF (fa δ) (kSt1 lo hi st) := rfl
theorem kSt1_ {lo hi st : Option Den} : kSt1 lo hi st d δ = bindPF (dPart lo δ) (kSt2 d hi st) := rfl
theorem kSt2_ {hi st : Option Den} {l : Option Int} : kSt2 d hi st l δ = bindPF (dPart hi δ) (kSt3 d st l) := rfl
theorem kSt3_ {st : Option Den} {l u : Option Int} : kSt3 d st l u δ = bindPF (dPart st δ) (kSt4 d l u) := rfl
theorem kSt4_l {ds : List D} {l u c : Option Int} : kSt4 (.lst ds) l u c δ = stpK ds l u c δ := rfl
theorem stpK_ {ds : List D} {l u c : Option Int} (h : (!decide (c = some 0) && decide ((ZX.pickG ds l u c).length ≤ 1000000)) = true) : stpK ds l u c δ = .ok (.lst (ZX.pickG ds l u c)) δ := if_pos h
def kDs4 (d : D) (l u : Option Int) : Option Int → En → RE := fun c δ => ofO (stpD d l u c) δ
def kDs3 (d : D) (st : Option Den) (l : Option Int) : Option Int → En → RE := fun u δ => bindP (dPart st δ) (kDs4 d l u)
def kDs2 (d : D) (hi st : Option Den) : Option Int → En → RE := fun l δ => bindP (dPart hi δ) (kDs3 d st l)
def kDs (lo hi st : Option Den) : D → En → RE := fun d δ => bindP (dPart lo δ) (kDs2 d hi st)
theorem dStp_ {lo hi st : Option Den} : dStp fa lo hi st δ = bindE (fa δ) (kDs lo hi st) := rfl
theorem kDs_ {lo hi st : Option Den} : kDs lo hi st d δ = bindP (dPart lo δ) (kDs2 d hi st) := rfl
theorem kDs2_ {hi st : Option Den} {l : Option Int} : kDs2 d hi st l δ = bindP (dPart hi δ) (kDs3 d st l) := rfl
theorem kDs3_ {st : Option Den} {l u : Option Int} : kDs3 d st l u δ = bindP (dPart st δ) (kDs4 d l u) := rfl
theorem kDs4_ {l u c : Option Int} : kDs4 d l u c δ = ofO (stpD d l u c) δ := rfl
theorem cutG_ {ds : List D} {l u : Option Int} : cutG ds l u = (ds.drop (HT.sIx ds.length 0 l)).take (HT.sIx ds.length ds.length u - HT.sIx ds.length 0 l) := rfl
theorem sIx_n {n e : Nat} : HT.sIx n e none = e := rfl
theorem sIx_s {n e : Nat} {v : Int} : HT.sIx n e (some v) = if v < 0 then (v + (n : Int)).toNat else min v.toNat n := rfl
-- operations
theorem addD_i {a b : Int} : addD (.int a) (.int b) = some (.int (a + b)) := rfl
theorem subD_i {a b : Int} : subD (.int a) (.int b) = some (.int (a - b)) := rfl
theorem mulD_i {a b : Int} (h : mulOk a b = true) : mulD (.int a) (.int b) = some (.int (a * b)) := if_pos h
theorem fdivD_i {a b : Int} (h : divOk b = true) : fdivD (.int a) (.int b) = some (.int (a.fdiv b)) := if_pos h
theorem fdivD_p {a b : Int} (h : divOk b = true) (h0 : 0 ≤ b) : fdivD (.int a) (.int b) = some (.int (a / b)) := by
  rw [fdivD_i h, Int.fdiv_eq_ediv_of_nonneg _ h0]
theorem modD_i {a b : Int} (h : b ≠ 0) : modD (.int a) (.int b) = some (.int (a.fmod b)) := if_neg h
theorem modD_p {a b : Int} (h : 0 < b) : modD (.int a) (.int b) = some (.int (a % b)) := by
  rw [modD_i (by omega), Int.fmod_eq_emod_of_nonneg _ (by omega)]
theorem powD_i {a b : Int} (h : powOk a b = true) : powD (.int a) (.int b) = some (.int (a ^ b.toNat)) := if_pos h
theorem negD_i {a : Int} : negD (.int a) = some (.int (-a)) := rfl
theorem notD_b : notD (.bl b) = some (.bl (!b)) := rfl
theorem cop_lt {a b : Int} : COp.fn .lt (.int a) (.int b) = some (.bl (decide (a < b))) := rfl
theorem cop_le {a b : Int} : COp.fn .le (.int a) (.int b) = some (.bl (decide (a ≤ b))) := rfl
theorem cop_gt {a b : Int} : COp.fn .gt (.int a) (.int b) = some (.bl (decide (b < a))) := rfl
theorem cop_ge {a b : Int} : COp.fn .ge (.int a) (.int b) = some (.bl (decide (b ≤ a))) := rfl
theorem cop_eq_b {a b : Bool} : COp.fn .eq (.bl a) (.bl b) = some (.bl (decide (a = b))) := by
  cases a <;> cases b <;> rfl
theorem cop_ne_b {a b : Bool} : COp.fn .ne (.bl a) (.bl b) = some (.bl (!decide (a = b))) := by
  cases a <;> cases b <;> rfl
theorem cop_eq_i {a b : Int} : COp.fn .eq (.int a) (.int b) = some (.bl (decide (a = b))) := rfl
theorem cop_ne_i {a b : Int} : COp.fn .ne (.int a) (.int b) = some (.bl (!decide (a = b))) := rfl
theorem cop_eq {z : Bool} (h : eqD x y = some z) : COp.fn .eq x y = some (.bl z) := by
  show (eqX x y).map D.bl = _
  rw [eqX_of h]; rfl
theorem cop_ne {z : Bool} (h : eqD x y = some z) : COp.fn .ne x y = some (.bl (!z)) := by
  show (eqD x y).map _ = _
  rw [h]; rfl
theorem abs_i {a : Int} : absL [.int a] = some (.int (if a < 0 then -a else a)) := rfl
theorem max_i {a b : Int} : maxL [.int a, .int b] = some (.int (if b > a then b else a)) := rfl
theorem min_i {a b : Int} : minL [.int a, .int b] = some (.int (if b < a then b else a)) := rfl
theorem len_l {ds : List D} : lenL [.lst ds] = some (.int ds.length) := rfl
theorem len_t {ds : List D} : lenL [.tup ds] = some (.int ds.length) := rfl
theorem tup_l {ds : List D} : tupL [.lst ds] = some (.tup ds) := rfl
theorem tup_t {ds : List D} : tupL [.tup ds] = some (.tup ds) := rfl
theorem int_i {a : Int} : intL [.int a] = some (.int a) := rfl
theorem idx_l {ds : List D} {a : Int} : idxD (.lst ds) (.int a) = atI ds a := rfl
theorem idx_t {ds : List D} {a : Int} : idxD (.tup ds) (.int a) = atI ds a := rfl
theorem atI_n {α : Type} {xs : List α} {n : Nat} : atI xs ((n : Nat) : Int) = xs[n]? := by
  unfold atI ixN
  rw [if_pos (Int.natCast_nonneg n)]
  by_cases h : (n : Int) < xs.length
  · rw [if_pos h]; simp
  · rw [if_neg h]
    rw [List.getElem?_eq_none (by omega)]
    rfl
theorem atI_0 {α : Type} {x : α} {xs : List α} : atI (x :: xs) 0 = some x := by
  rw [show (0 : Int) = ((0 : Nat) : Int) from rfl, atI_n]; rfl
theorem atI_1 {α : Type} {xs : List α} : atI xs 1 = xs[1]? := atI_n (n := 1)
theorem atI_2 {α : Type} {xs : List α} : atI xs 2 = xs[2]? := atI_n (n := 2)
theorem atI_3 {α : Type} {xs : List α} : atI xs 3 = xs[3]? := atI_n (n := 3)
theorem atI_4 {α : Type} {xs : List α} : atI xs 4 = xs[4]? := atI_n (n := 4)
theorem atI_5 {α : Type} {xs : List α} : atI xs 5 = xs[5]? := atI_n (n := 5)
theorem atI_6 {α : Type} {xs : List α} : atI xs 6 = xs[6]? := atI_n (n := 6)
theorem atI_7 {α : Type} {xs : List α} : atI xs 7 = xs[7]? := atI_n (n := 7)
theorem atI_8 {α : Type} {xs : List α} : atI xs 8 = xs[8]? := atI_n (n := 8)
theorem atI_9 {α : Type} {xs : List α} : atI xs 9 = xs[9]? := atI_n (n := 9)
theorem atI_m1 {α : Type} {xs : List α} : atI xs (-1) = xs[xs.length - 1]? := by
  unfold atI ixN
  cases xs with
  | nil => rfl
  | cons x xs =>
    have h : ¬ (0 : Int) ≤ -1 := by decide
    have h2 : -(((x :: xs).length : Nat) : Int) ≤ -1 := by rw [List.length_cons]; omega
    rw [if_neg h, if_pos h2]
    have e : (-1 + (((x :: xs).length : Nat) : Int)).toNat = (x :: xs).length - 1 := by omega
    rw [e]
    rfl
theorem endD_rt : endD (.rt d δ) = .ok d := rfl
theorem endD_nx : endD (.nx δ) = .ok .non := rfl
theorem endD_rz : endD (.rz c δ) = .rz c := rfl
end
/-! ### comprehensions, step by step -/
section
variable {δ δ1 δ2 : En} {d e : D} {ds es : List D} {f c : Den} {g : D → En → Option En} {t : Option Den} {v : Nat} {vs : List Nat} {k : En → Option (List D × En)} {b : Bool} {s : Sl}
def cM (e : D) (o : Option (List D × En)) : Option (List D × En) := o.map fun q => (e :: q.1, q.2)
theorem cM_s : cM e (some (es, δ)) = some (e :: es, δ) := rfl
def cE (vs : List Nat) (k : En → Option (List D × En)) : RE → Option (List D × En)
  | .ok e δ3 => cM e (k (wipeD δ3 vs))
  | _ => none
theorem cE_ok : cE vs k (.ok e δ) = cM e (k (wipeD δ vs)) := rfl
def cS (f : Den) (vs : List Nat) (k : En → Option (List D × En)) : Option En → Option (List D × En)
  | some δ1 => cE vs k (f δ1)
  | none => none
theorem cS_s : cS f vs k (some δ) = cE vs k (f δ) := rfl
def cB (f : Den) (vs : List Nat) (k : En → Option (List D × En)) : RE → Option (List D × En)
  | .ok (.bl b) δ2 => if b = true then cE vs k (f δ2) else k (wipeD δ2 vs)
  | _ => none
theorem cB_ok : cB f vs k (.ok (.bl b) δ) = if b = true then cE vs k (f δ) else k (wipeD δ vs) := rfl
def cT (c f : Den) (vs : List Nat) (k : En → Option (List D × En)) : Option En → Option (List D × En)
  | some δ1 => cB f vs k (c δ1)
  | none => none
theorem cT_s : cT c f vs k (some δ) = cB f vs k (c δ) := rfl
theorem compF_n : compF g t f vs [] δ = some ([], δ) := rfl
theorem compF_0 : compF g none f vs (d :: ds) δ = cS f vs (compF g none f vs ds) (g d δ) := by
  show ((g d δ).bind fun δ1 => (tstO none δ1).bind fun p => if p.1 then (match f p.2 with
      | .ok e δ3 => (compF g none f vs ds (wipeD δ3 vs)).map fun q => (e :: q.1, q.2)
      | _ => none) else compF g none f vs ds (wipeD p.2 vs)) = _
  cases g d δ with
  | none => rfl
  | some δ1 =>
    show (match f δ1 with
      | .ok e δ3 => (compF g none f vs ds (wipeD δ3 vs)).map fun q => (e :: q.1, q.2)
      | _ => none) = cE vs _ (f δ1)
    cases f δ1 <;> rfl
theorem compF_1 : compF g (some c) f vs (d :: ds) δ = cT c f vs (compF g (some c) f vs ds) (g d δ) := by
  show ((g d δ).bind fun δ1 => (tstO (some c) δ1).bind fun p => if p.1 then (match f p.2 with
      | .ok e δ3 => (compF g (some c) f vs ds (wipeD δ3 vs)).map fun q => (e :: q.1, q.2)
      | _ => none) else compF g (some c) f vs ds (wipeD p.2 vs)) = _
  cases g d δ with
  | none => rfl
  | some δ1 =>
    show ((match c δ1 with
      | .ok (.bl b) δ1 => some (b, δ1)
      | _ => none).bind fun (p : Bool × En) => if p.1 then (match f p.2 with
      | .ok e δ3 => (compF g (some c) f vs ds (wipeD δ3 vs)).map fun (q : List D × En) => (e :: q.1, q.2)
      | _ => none) else compF g (some c) f vs ds (wipeD p.2 vs)) = cB f vs (compF g (some c) f vs ds) (c δ1)
    cases c δ1 with
    | rz c δ => rfl
    | bad => rfl
    | ok d δ2 =>
      cases d with
      | bl b =>
        cases b with
        | true =>
          show (match f δ2 with
            | .ok e δ3 => (compF g (some c) f vs ds (wipeD δ3 vs)).map fun q => (e :: q.1, q.2)
            | _ => none) = cE vs _ (f δ2)
          cases f δ2 <;> rfl
        | false => rfl
      | _ => rfl
/-- a comprehension whose every turn comes back to where it was -/
theorem compF_map {h : D → D} : ∀ {ds : List D}, (∀ d ∈ ds, ∃ δ1, g d δ = some δ1 ∧ ∃ δ3, f δ1 = .ok (h d) δ3 ∧ wipeD δ3 vs = δ) → compF g none f vs ds δ = some (ds.map h, δ)
  | [], _ => rfl
  | d :: ds, H => by
    obtain ⟨δ1, e1, δ3, e2, e3⟩ := H d List.mem_cons_self
    rw [compF_0, e1, cS_s, e2, cE_ok, e3, compF_map fun d hd => H d (List.mem_cons_of_mem _ hd)]
    rfl
theorem compF_fil {p : D → Bool} {h : D → D} : ∀ {ds : List D}, (∀ d ∈ ds, ∃ δ1, g d δ = some δ1 ∧ ∃ δ2, c δ1 = .ok (.bl (p d)) δ2 ∧ (p d = true → ∃ δ3, f δ2 = .ok (h d) δ3 ∧ wipeD δ3 vs = δ) ∧ (p d = false → wipeD δ2 vs = δ)) → compF g (some c) f vs ds δ = some ((ds.filter p).map h, δ)
  | [], _ => rfl
  | d :: ds, H => by
    obtain ⟨δ1, e1, δ2, e2, h1, h2⟩ := H d List.mem_cons_self
    have r := compF_fil (ds := ds) fun d hd => H d (List.mem_cons_of_mem _ hd)
    rw [compF_1, e1, cT_s, e2, cB_ok]
    cases hp : p d with
    | true =>
      obtain ⟨δ3, e3, e4⟩ := h1 hp
      rw [if_pos rfl, e3, cE_ok, e4, r, List.filter_cons_of_pos hp]
      rfl
    | false => rw [if_neg (by simp), h2 hp, r, List.filter_cons_of_neg (by simp [hp])]
def kCompR (δ1 : En) (vs : List Nat) : Option (List D × En) → RF
  | some (es, δ2) => .ok (.lst es) (restore δ1 δ2 vs)
  | none => .bad
theorem kCompR_s : kCompR δ vs (some (es, δ2)) = .ok (.lst es) (restore δ δ2 vs) := rfl
def kComp (g : D → En → Option En) (t : Option Den) (f : Den) (vs : List Nat) : RI → RF
  | .ok ds δ1 => if okWipe δ1 vs && decide (ds.length ≤ 1000000) then kCompR δ1 vs (compF g t f vs ds (wipeD δ1 vs)) else .bad
  | .rz c δ => .rz c δ
  | .bad => .bad
theorem fComp_ {i : En → RI} : fComp i g t f vs δ = kComp g t f vs (i δ) := by
  unfold fComp kComp
  cases i δ with
  | rz c δ => rfl
  | bad => rfl
  | ok ds δ1 =>
    show (if okWipe δ1 vs && decide (ds.length ≤ 1000000) then (match compF g t f vs ds (wipeD δ1 vs) with
      | some (es, δ2) => RF.ok (.lst es) (restore δ1 δ2 vs)
      | none => .bad) else .bad) = if okWipe δ1 vs && decide (ds.length ≤ 1000000) then kCompR δ1 vs (compF g t f vs ds (wipeD δ1 vs)) else .bad
    congr 1
    all_goals (cases compF g t f vs ds (wipeD δ1 vs) <;> rfl)
def cmpBKK (s : Option Sl) (i : Nat) (g : D → En → Option En) (t : Option Den) (f : Den) (vs : List Nat) (δ : En) : RF := match s with
  | some (.ow (.lst ds)) => ownB i ds (fComp (iOk ds) g t f vs (δ.set i .no))
  | _ => fComp (iSeq (dVar i)) g t f vs δ
theorem fCompB_ {i : Nat} : fCompB i g t f vs δ = cmpBKK δ[i]? i g t f vs δ := rfl
theorem cmpBKK_ow {i : Nat} {ds : List D} : cmpBKK (some (.ow (.lst ds))) i g t f vs δ = ownB i ds (fComp (iOk ds) g t f vs (δ.set i .no)) := rfl
theorem cmpBKK_va {i : Nat} {d : D} : cmpBKK (some (.va d)) i g t f vs δ = fComp (iSeq (dVar i)) g t f vs δ := rfl
theorem iOk_ {ds : List D} : iOk ds δ = .ok ds δ := rfl
theorem ownB_ok {i : Nat} {ds : List D} {o : O} : ownB i ds (.ok o δ) = ownBK δ[i]? i ds o δ := rfl
theorem ownBK_no {i : Nat} {ds : List D} {o : O} : ownBK (some .no) i ds o δ = .ok o (δ.set i (.ow (.lst ds))) := rfl
theorem kComp_ok (h : okWipe δ vs = true) (l : ds.length ≤ 1000000) : kComp g t f vs (.ok ds δ) = kCompR δ vs (compF g t f vs ds (wipeD δ vs)) := by
  show (if okWipe δ vs && decide (ds.length ≤ 1000000) then _ else _) = _
  rw [h, decide_eq_true l]
  rfl
theorem kComp_if : kComp g t f vs (.ok ds δ) = if (okWipe δ vs && decide (ds.length ≤ 1000000)) = true then kCompR δ vs (compF g t f vs ds (wipeD δ vs)) else .bad := rfl
theorem wipeD_n : wipeD δ [] = δ := rfl
theorem wipeD_c : wipeD δ (v :: vs) = (wipeD δ vs).set v .no := rfl
def okS : Option Sl → Bool
  | some .no => true
  | some (.va _) => true
  | _ => false
theorem okWipe_n : okWipe δ [] = true := rfl
theorem okWipe_c : okWipe δ (v :: vs) = (okS δ[v]? && okWipe δ vs) := rfl
theorem okS_no : okS (some .no) = true := rfl
theorem okS_va : okS (some (.va d)) = true := rfl
def rsK (s : Option Sl) (v : Nat) (δ : En) : En := match s with
  | some s => δ.set v s
  | none => δ
theorem restore_n : restore δ1 δ2 [] = δ2 := rfl
theorem restore_c : restore δ1 δ2 (v :: vs) = rsK δ1[v]? v (restore δ1 δ2 vs) := rfl
theorem rsK_s : rsK (some s) v δ = δ.set v s := rfl
end
/-! ### zip, enumerate -/
section
variable {δ : En} {d : D} {a b ds es : List D} {g : List D → Option (List D)} {fs : List Den} {n : Nat} {x y : D}
def lsO (o : Option (List D)) (δ : En) : RI := match o with
  | some es => .ok es δ
  | none => .bad
theorem lsO_s : lsO (some es) δ = .ok es δ := rfl
def lsK (g : List D → Option (List D)) : RA → RI
  | .ok ds δ1 => lsO (g ds) δ1
  | .rz c δ => .rz c δ
  | .bad => .bad
theorem iLs_ : iLs g fs δ = lsK g (dArgs fs δ) := by
  unfold iLs lsK lsO
  cases dArgs fs δ <;> rfl
theorem lsK_ok : lsK g (.ok ds δ) = lsO (g ds) δ := rfl
theorem zipL_l : zipL [.lst a, .lst b] = some (zipD a b) := rfl
theorem rng3L_i {i j c : Int} (h : rgOk i j c = true) : rng3L [.int i, .int j, .int c] = some (rngC i c (Builtin.Range.rangeSize i j c).toNat) := if_pos h
theorem rngC_0 {i c : Int} : rngC i c 0 = [] := rfl
theorem rngC_s {i c : Int} {n : Nat} : rngC i c (n + 1) = .int i :: rngC (i + c) c n := rfl
theorem zipL_t : zipL [.tup a, .tup b] = some (zipD a b) := rfl
theorem zipL_m : zipL [.tup a, .lst b] = some (zipD a b) := rfl
theorem zipD_c : zipD (x :: a) (y :: b) = .tup [x, y] :: zipD a b := rfl
theorem zipD_n : zipD [] b = [] := rfl
theorem enuL_l : enuL [.lst a] = some (enuD 0 a) := rfl
theorem enuL_t : enuL [.tup a] = some (enuD 0 a) := rfl
theorem enuD_c : enuD n (x :: a) = .tup [.int n, x] :: enuD (n + 1) a := rfl
theorem enuD_n : enuD n [] = [] := rfl
end
/-! ### what is taken, what is one's own -/
section
variable {δ : En} {d x y : D} {a b ds : List D} {fa fb : Den} {fs : List Den} {ps : List (Option Den)} {g : List D → RD} {i q : Nat} {o r : O} {c : Exc} {f : FDen}
def ownAtK : Option Sl → Option O
  | some (.ow o) => some o
  | some (.pi o) => some o
  | _ => none
theorem ownAt_ : ownAt δ i = ownAtK δ[i]? := by
  unfold ownAt ownAtK
  cases δ[i]? with
  | none => rfl
  | some s => cases s <;> rfl
theorem ownAtK_ow : ownAtK (some (.ow o)) = some o := rfl
theorem ownAtK_pi : ownAtK (some (.pi o)) = some o := rfl
def soK (s : Option Sl) (i : Nat) (o : O) (δ : En) : En := match s with
  | some (.ow _) => δ.set i (.ow o)
  | some (.pi _) => δ.set i (.pi o)
  | _ => δ
theorem setOwn_ : setOwn δ i o = soK δ[i]? i o δ := by
  unfold setOwn soK
  cases δ[i]? with
  | none => rfl
  | some s => cases s <;> rfl
theorem soK_ow : soK (some (.ow r)) i o δ = δ.set i (.ow o) := rfl
theorem soK_pi : soK (some (.pi r)) i o δ = δ.set i (.pi o) := rfl
def kCP (g : List D → RD) (q i : Nat) : List D → En → RE := fun ds δ => callPK g q i (ownAt δ i) ds δ
def kCPF (g : List D → RD) (q i : Nat) : List D → En → RF := fun ds δ => callPKF g q i (ownAt δ i) ds δ
def cPK (s : Option O) (g : List D → RD) (q i : Nat) (r : RA) : RE := match s with
  | some _ => bindA r (kCP g q i)
  | none => .bad
def cPKF (s : Option O) (g : List D → RD) (q i : Nat) (r : RA) : RF := match s with
  | some _ => bindAF r (kCPF g q i)
  | none => .bad
theorem dCallP_ : dCallP g q i ps δ = cPK (ownAt δ i) g q i (dArgsP ps δ) := by
  unfold dCallP cPK
  cases ownAt δ i <;> rfl
theorem fCallP_ : fCallP g q i ps δ = cPKF (ownAt δ i) g q i (dArgsP ps δ) := by
  unfold fCallP cPKF
  cases ownAt δ i <;> rfl
theorem cPK_s {r : RA} : cPK (some o) g q i r = bindA r (kCP g q i) := rfl
theorem cPKF_s {r : RA} : cPKF (some o) g q i r = bindAF r (kCPF g q i) := rfl
def kCB (g : List D → RD) (q i : Nat) : List D → En → RE := fun ds δ => callBK g q (ownAt δ i) ds δ
def cBK (s : Option O) (g : List D → RD) (q i : Nat) (r : RA) : RE := match s with
  | some _ => bindA r (kCB g q i)
  | none => .bad
theorem dCallB_ : dCallB g q i ps δ = cBK (ownAt δ i) g q i (dArgsP ps δ) := by
  unfold dCallB cBK
  cases ownAt δ i <;> rfl
theorem cBK_s {r : RA} : cBK (some o) g q i r = bindA r (kCB g q i) := rfl
theorem kCB_ : kCB g q i ds δ = callBK g q (ownAt δ i) ds δ := rfl
theorem callBK_s {es : List D} : callBK g q (some (.lst es)) ds δ = flatR (g (ds.set q (.lst es))) δ := rfl
theorem flatR_ok : flatR (.ok d) δ = if flat d = true then .ok d δ else .bad := rfl
theorem flatR_ow {es : List D} : flatR (.ow (.lst es)) δ = if flats es = true then .ok (.lst es) δ else .bad := rfl
theorem flatR_rz {c : Nat} : flatR (.rz ⟨c, []⟩) δ = .rz ⟨c, []⟩ δ := rfl
theorem flat_n : flat .non = true := by unfold flat; rfl
theorem flat_b {b : Bool} : flat (.bl b) = true := by unfold flat; rfl
theorem flat_i {i : Int} : flat (.int i) = true := by unfold flat; rfl
theorem flat_s {x : Str} : flat (.str x) = true := by unfold flat; rfl
theorem flat_t {ds : List D} : flat (.tup ds) = flats ds := by rw [flat]
theorem flats_n : flats [] = true := by unfold flats; rfl
theorem flats_c {ds : List D} : flats (d :: ds) = (flat d && flats ds) := by rw [flats]
theorem kCP_ : kCP g q i ds δ = callPK g q i (ownAt δ i) ds δ := rfl
theorem kCPF_ : kCPF g q i ds δ = callPKF g q i (ownAt δ i) ds δ := rfl
theorem callPK_s : callPK g q i (some o) ds δ = ofP (g (ds.set q (ownD o))) i δ := rfl
theorem callPKF_s : callPKF g q i (some o) ds δ = ofPF (g (ds.set q (ownD o))) i δ := rfl
theorem ofP_d : ofP (.okp d o) i δ = .ok d (setOwn δ i o) := rfl
theorem ofP_o : ofP (.owp r o) i δ = .ok (ownD r) (setOwn δ i o) := rfl
theorem ofPF_o : ofPF (.owp r o) i δ = .ok r (setOwn δ i o) := rfl
def kArgN : List D → En → RA := fun ds δ => .ok (.non :: ds) δ
def kArgP (ps : List (Option Den)) : D → En → RA := fun d δ => bindAA (dArgsP ps δ) (kArg2 d)
theorem dArgsP_n : dArgsP [] δ = .ok [] δ := rfl
theorem dArgsP_o : dArgsP (none :: ps) δ = bindAA (dArgsP ps δ) kArgN := rfl
theorem dArgsP_c : dArgsP (some fa :: ps) δ = consA (fa δ) (kArgP ps) := rfl
theorem kArgN_ : kArgN ds δ = .ok (.non :: ds) δ := rfl
theorem kArgP_ : kArgP ps d δ = bindAA (dArgsP ps δ) (kArg2 d) := rfl
def kCallF (g : List D → RD) : List D → En → RF := fun ds δ => ofDF (g ds) δ
theorem fCall_ : fCall g fs δ = bindAF (dArgs fs δ) (kCallF g) := rfl
theorem kCallF_ : kCallF g ds δ = ofDF (g ds) δ := rfl
theorem ofDF_ow : ofDF (.ow o) δ = .ok o δ := rfl
theorem ofD_ow : ofD (.ow o) δ = .ok (ownD o) δ := rfl
theorem sRetF_ : sRetF f δ = retFK (f δ) := rfl
theorem retFK_ok : retFK (.ok o δ) = .ro o δ := rfl
theorem sRetO_ : sRetO i δ = retOK δ[i]? i δ := rfl
theorem retOK_ow : retOK (some (.ow o)) i δ = .ro o (δ.set i .no) := rfl
theorem bindS_ro {k : En → RS} : bindS (.ro o δ) k = .ro o δ := rfl
theorem loopK_ro {ws : List Nat} {k : En → RS} : loopK ws (.ro o δ) k = .ro o δ := rfl
theorem endD_ro : endD (.ro o δ) = .ow o := rfl
def epK (s : Option Sl) (d : D) : RD := match s with
  | some (.pi o) => .okp d o
  | _ => .bad
def epR (s : Option Sl) (r : O) : RD := match s with
  | some (.pi o) => .owp r o
  | _ => .bad
theorem endP_rt : endP q (.rt d δ) = epK δ[q]? d := rfl
theorem endP_nx : endP q (.nx δ) = epK δ[q]? .non := rfl
theorem endP_ro : endP q (.ro r δ) = epR δ[q]? r := rfl
theorem epK_pi : epK (some (.pi o)) d = .okp d o := rfl
theorem epR_pi : epR (some (.pi o)) r = .owp r o := rfl
def kFA2 (x : D) : D → En → RF := fun y δ => catK x y δ
def kFA (fb : Den) : D → En → RF := fun x δ => bindEF (fb δ) (kFA2 x)
theorem fAdd_ : fAdd fa fb δ = bindEF (fa δ) (kFA fb) := rfl
theorem kFA_ : kFA fb x δ = bindEF (fb δ) (kFA2 x) := rfl
theorem kFA2_ : kFA2 x y δ = catK x y δ := rfl
theorem catK_l (h : a.length + b.length ≤ 1000000) : catK (.lst a) (.lst b) δ = .ok (.lst (a ++ b)) δ := if_pos h
def kLs : D → En → RF := fun x δ => listK x δ
theorem fList_ : fList fa δ = bindEF (fa δ) kLs := rfl
theorem kLs_ : kLs x δ = listK x δ := rfl
theorem listK_l : listK (.lst a) δ = .ok (.lst a) δ := rfl
theorem listK_t : listK (.tup a) δ = .ok (.lst a) δ := rfl
theorem addD_ll (h : a.length + b.length ≤ 1000000) : addD (.lst a) (.lst b) = some (.lst (a ++ b)) := if_pos h
theorem addD_tt (h : a.length + b.length ≤ 1000000) : addD (.tup a) (.tup b) = some (.tup (a ++ b)) := if_pos h
theorem peekK_pi : peekK (some (.pi o)) = some (ownD o) := rfl
theorem ixKK_pi {k : Int} : ixKK (some (.pi (.lst ds))) (.int k) δ = ofO (atI ds k) δ := rfl
theorem appS_pi {r : RE} {k : D → En → RS} : appS (some (.pi (.lst ds))) r k = bindES r k := rfl
theorem appK_pi (h : ds.length < 1000000) : appK (some (.pi (.lst ds))) i d δ = .nx (δ.set i (.pi (.lst (ds ++ [d])))) := if_pos h
def sjO (pin : Bool) (i : Nat) (d : D) (ds : List D) (δ : En) : Option Nat → RS
  | some j => .nx (δ.set i (if pin = true then .pi (.lst (ds.set j d)) else .ow (.lst (ds.set j d))))
  | none => .bad
theorem subO_pi_ {k : Int} : subO (some (.pi (.lst ds))) i d (.int k) δ = sjO true i d ds δ (ixN ds.length k) := by
  show (match ixN ds.length k with | some j => RS.nx (δ.set i (.pi (.lst (ds.set j d)))) | none => .bad) = _
  cases ixN ds.length k <;> rfl
theorem subO_ow_ {k : Int} : subO (some (.ow (.lst ds))) i d (.int k) δ = sjO false i d ds δ (ixN ds.length k) := by
  show (match ixN ds.length k with | some j => RS.nx (δ.set i (.ow (.lst (ds.set j d)))) | none => .bad) = _
  cases ixN ds.length k <;> rfl
theorem sjO_s {pin : Bool} {j : Nat} : sjO pin i d ds δ (some j) = .nx (δ.set i (if pin = true then .pi (.lst (ds.set j d)) else .ow (.lst (ds.set j d)))) := rfl
theorem ixN_nn {n : Nat} {k : Int} (h : 0 ≤ k ∧ k < n) : ixN n k = some k.toNat := by
  unfold ixN
  simp [h.1, h.2]
theorem subO_pi {k : Int} {j : Nat} (h : ixN ds.length k = some j) : subO (some (.pi (.lst ds))) i d (.int k) δ = .nx (δ.set i (.pi (.lst (ds.set j d)))) := by
  show (match ixN ds.length k with | some j => RS.nx (δ.set i (.pi (.lst (ds.set j d)))) | none => .bad) = _
  rw [h]
end
/-! ### isinstance -/
theorem isi_int_int {a : Int} : isiD "int" (.int a) = some (.bl true) := by rfl
theorem isi_int_bl {a : Bool} : isiD "int" (.bl a) = some (.bl true) := by rfl
theorem isi_int_non : isiD "int" .non = some (.bl false) := by rfl
theorem isi_int_str {a : Str} : isiD "int" (.str a) = some (.bl false) := by rfl
theorem isi_int_tup {a : List D} : isiD "int" (.tup a) = some (.bl false) := by rfl
theorem isi_int_lst {a : List D} : isiD "int" (.lst a) = some (.bl false) := by rfl
theorem isi_int_dic {a : List Key} {b : List D} : isiD "int" (.dic a b) = some (.bl false) := by rfl
theorem isi_bool_int {a : Int} : isiD "bool" (.int a) = some (.bl false) := by rfl
theorem isi_bool_bl {a : Bool} : isiD "bool" (.bl a) = some (.bl true) := by rfl
theorem isi_bool_non : isiD "bool" .non = some (.bl false) := by rfl
theorem isi_bool_str {a : Str} : isiD "bool" (.str a) = some (.bl false) := by rfl
theorem isi_bool_tup {a : List D} : isiD "bool" (.tup a) = some (.bl false) := by rfl
theorem isi_bool_lst {a : List D} : isiD "bool" (.lst a) = some (.bl false) := by rfl
theorem isi_bool_dic {a : List Key} {b : List D} : isiD "bool" (.dic a b) = some (.bl false) := by rfl
theorem isi_tup_int {a : Int} : isiD "tuple" (.int a) = some (.bl false) := by rfl
theorem isi_tup_bl {a : Bool} : isiD "tuple" (.bl a) = some (.bl false) := by rfl
theorem isi_tup_non : isiD "tuple" .non = some (.bl false) := by rfl
theorem isi_tup_str {a : Str} : isiD "tuple" (.str a) = some (.bl false) := by rfl
theorem isi_tup_tup {a : List D} : isiD "tuple" (.tup a) = some (.bl true) := by rfl
theorem isi_tup_lst {a : List D} : isiD "tuple" (.lst a) = some (.bl false) := by rfl
theorem isi_tup_dic {a : List Key} {b : List D} : isiD "tuple" (.dic a b) = some (.bl false) := by rfl
theorem isi_lst_tup {a : List D} : isiD "list" (.tup a) = some (.bl false) := by rfl
theorem isi_lst_lst {a : List D} : isiD "list" (.lst a) = some (.bl true) := by rfl
theorem isi2_lt_l {a : List D} : isi2D "list" "tuple" (.lst a) = some (.bl true) := by rfl
theorem isi2_lt_t {a : List D} : isi2D "list" "tuple" (.tup a) = some (.bl true) := by rfl
theorem isi2_lt_i {a : Int} : isi2D "list" "tuple" (.int a) = some (.bl false) := by rfl
theorem isi2_lt_n : isi2D "list" "tuple" .non = some (.bl false) := by rfl
theorem isi2_lt_b {a : Bool} : isi2D "list" "tuple" (.bl a) = some (.bl false) := by rfl
theorem isi2_lt_s {a : Str} : isi2D "list" "tuple" (.str a) = some (.bl false) := by rfl
section
variable {f : FDen} {n : Int} {δ : En} {ds : List D}
theorem fRep_ : fRep f n δ = repK n (f δ) := rfl
theorem repK_if : repK n (.ok (.lst ds) δ) = if 0 ≤ n ∧ n < 1000000 ∧ ds.length * n.toNat ≤ 1000000 then .ok (.lst (List.replicate n.toNat ds).flatten) δ else .bad := rfl
end
/-! ### equality of lists and tuples, step by step -/
mutual
def shp : Nat → D → Bool
  | _, .non => true
  | _, .bl _ => true
  | _, .int _ => true
  | _, .str x => PyData.strOk x
  | n + 1, .tup ds => shps n ds
  | n + 1, .lst ds => shps n ds
  | _, _ => false
def shps : Nat → List D → Bool
  | _, [] => true
  | n, d :: ds => shp n d && shps n ds
end
mutual
theorem shp_ok : ∀ (d : D) (n : Nat), shp n d = true → (toPy d).canLay0 = true ∧ (toPy d).depth ≤ n
  | .non, n, h => ⟨by unfold toPy; rfl, by unfold toPy; exact Nat.zero_le _⟩
  | .bl _, n, h => ⟨by unfold toPy; rfl, by unfold toPy; exact Nat.zero_le _⟩
  | .int _, n, h => ⟨by unfold toPy; rfl, by unfold toPy; exact Nat.zero_le _⟩
  | .str x, n, h => ⟨by unfold toPy PyData.canLay0; unfold shp at h; exact h, by unfold toPy; exact Nat.zero_le _⟩
  | .tup ds, 0, h => by unfold shp at h; cases h
  | .lst ds, 0, h => by unfold shp at h; cases h
  | .dic _ _, n, h => by unfold shp at h; cases h
  | .tup ds, n + 1, h => by
    unfold shp at h
    obtain ⟨a, b⟩ := shps_ok ds n h
    unfold toPy PyData.canLay0 PyData.depth
    exact ⟨a, Nat.succ_le_succ b⟩
  | .lst ds, n + 1, h => by
    unfold shp at h
    obtain ⟨a, b⟩ := shps_ok ds n h
    unfold toPy PyData.canLay0 PyData.depth
    exact ⟨a, Nat.succ_le_succ b⟩
theorem shps_ok : ∀ (ds : List D) (n : Nat), shps n ds = true → PyData.canLayAll0 (toPys ds) = true ∧ PyData.depthAll (toPys ds) ≤ n
  | [], n, h => ⟨by unfold toPys; rfl, by unfold toPys; exact Nat.zero_le _⟩
  | d :: ds, n, h => by
    unfold shps at h
    rw [Bool.and_eq_true] at h
    obtain ⟨a, b⟩ := shp_ok d n h.1
    obtain ⟨a', b'⟩ := shps_ok ds n h.2
    unfold toPys PyData.canLayAll0 PyData.depthAll
    rw [a, a']
    exact ⟨rfl, Nat.max_le.mpr ⟨b, b'⟩⟩
end
def eq1 (d e : D) : Bool := PyData.eqv (toPy d) (toPy e)
def eqs (a b : List D) : Bool := PyData.eqvAll (toPys a) (toPys b)
theorem eqD_shp {d e : D} (h : shp 64 d = true) (h' : shp 64 e = true) : eqD d e = some (eq1 d e) := by
  obtain ⟨a, b⟩ := shp_ok d 64 h
  obtain ⟨a', b'⟩ := shp_ok e 64 h'
  unfold eqD SeqAt.shaped
  rw [a, a', decide_eq_true b, decide_eq_true b']
  rfl
section
variable {a b : List D} {x y : D} {i j : Int}
theorem shps_n {n : Nat} : shps n [] = true := by unfold shps; rfl
theorem shps_c {n : Nat} : shps n (x :: a) = (shp n x && shps n a) := by rw [shps]
theorem shp_i {n : Nat} : shp n (.int i) = true := by unfold shp; rfl
theorem shp_b {n : Nat} {k : Bool} : shp n (.bl k) = true := by unfold shp; rfl
theorem shp_non {n : Nat} : shp n .non = true := by unfold shp; rfl
theorem shp_s {n : Nat} {z : Str} : shp n (.str z) = PyData.strOk z := by unfold shp; rfl
theorem shp_t {n : Nat} : shp (n + 1) (.tup a) = shps n a := by rw [shp]
theorem shp_l {n : Nat} : shp (n + 1) (.lst a) = shps n a := by rw [shp]
theorem eq1_tt : eq1 (.tup a) (.tup b) = eqs a b := by unfold eq1 toPy PyData.eqv; rfl
theorem eq1_ll : eq1 (.lst a) (.lst b) = eqs a b := by unfold eq1 toPy PyData.eqv; rfl
theorem eq1_ii : eq1 (.int i) (.int j) = decide (i = j) := by unfold eq1 toPy PyData.eqv; rfl
theorem eq1_bb {i j : Bool} : eq1 (.bl i) (.bl j) = decide (i = j) := by unfold eq1 toPy PyData.eqv; cases i <;> cases j <;> rfl
theorem eq1_ss {i j : Str} : eq1 (.str i) (.str j) = (i == j) := by unfold eq1 toPy PyData.eqv; rfl
theorem eq1_nn : eq1 .non .non = true := by unfold eq1 toPy PyData.eqv; rfl
theorem eq1_nt : eq1 .non (.tup b) = false := by unfold eq1 toPy PyData.eqv; rfl
theorem eq1_tn : eq1 (.tup b) .non = false := by unfold eq1 toPy PyData.eqv; rfl
theorem eqs_nn : eqs [] [] = true := by unfold eqs toPys PyData.eqvAll; rfl
theorem eqs_nc : eqs [] (y :: b) = false := by unfold eqs toPys PyData.eqvAll; rfl
theorem eqs_cn : eqs (x :: a) [] = false := by unfold eqs toPys PyData.eqvAll; rfl
theorem eqs_cc : eqs (x :: a) (y :: b) = (eq1 x y && eqs a b) := by
  unfold eqs eq1
  rw [toPys, toPys, PyData.eqvAll]
theorem cop_eq_tt (h : shp 64 (.tup a) = true) (h' : shp 64 (.tup b) = true) : COp.fn .eq (.tup a) (.tup b) = some (.bl (eqs a b)) := by
  show (eqD _ _).map D.bl = _
  rw [eqD_shp h h', eq1_tt]; rfl
theorem cop_ne_tt (h : shp 64 (.tup a) = true) (h' : shp 64 (.tup b) = true) : COp.fn .ne (.tup a) (.tup b) = some (.bl (!eqs a b)) := by
  show (eqD _ _).map (fun b => D.bl (!b)) = _
  rw [eqD_shp h h', eq1_tt]; rfl
theorem cop_eq_ll (h : shp 64 (.lst a) = true) (h' : shp 64 (.lst b) = true) : COp.fn .eq (.lst a) (.lst b) = some (.bl (eqs a b)) := by
  show (eqD _ _).map D.bl = _
  rw [eqD_shp h h', eq1_ll]; rfl
theorem cop_ne_ll (h : shp 64 (.lst a) = true) (h' : shp 64 (.lst b) = true) : COp.fn .ne (.lst a) (.lst b) = some (.bl (!eqs a b)) := by
  show (eqD _ _).map (fun b => D.bl (!b)) = _
  rw [eqD_shp h h', eq1_ll]; rfl
def bKR (o : Option D) (δ : En) : RE := match o with
  | some (.bl b) => .ok (.bl b) δ
  | _ => .bad
theorem bKK_ {g : D → D → Option D} {δ : En} : bKK (some x) g y δ = bKR (g x y) δ := rfl
theorem bKR_s {k : Bool} {δ : En} : bKR (some (.bl k)) δ = .ok (.bl k) δ := rfl
end
/-! ### is -/
theorem is_bb {n a b : Bool} : isD n (.bl a) (.bl b) = some (.bl (if n = true then !decide (a = b) else decide (a = b))) := rfl
theorem is_nn {n : Bool} : isD n .non .non = some (.bl (!n)) := rfl
theorem is_in {n : Bool} {a : Int} : isD n (.int a) .non = some (.bl n) := rfl
theorem is_tn {n : Bool} {a : List D} : isD n (.tup a) .non = some (.bl n) := rfl
theorem is_ln {n : Bool} {a : List D} : isD n (.lst a) .non = some (.bl n) := rfl
theorem is_bn {n : Bool} {a : Bool} : isD n (.bl a) .non = some (.bl n) := rfl
theorem divOk_B {b : Int} (h : b ≠ 0) (h' : B 8999 b) : divOk b = true := by
  unfold divOk
  have := h'.log2
  rw [decide_eq_true h, decide_eq_true (by omega)]
  rfl
theorem powOk_l {a b : Int} (h : 0 ≤ b) (h1 : b ≤ 1000000) (h2 : a.natAbs < 2 ^ 64) : powOk a b = true := by
  unfold powOk
  rw [decide_eq_true h, decide_eq_true h1, decide_eq_true h2]
  rfl
/-- a loop that comes back to where it was -/
theorem forF_const {ws : List Nat} {g : D → En → Option En} {b : SDen} {δ : En} : ∀ {ds : List D}, (∀ d ∈ ds, ∃ δ1, g d δ = some δ1 ∧ ∃ δ2, b δ1 = .nx δ2 ∧ fgt ws δ2 = δ) → forF ws g b ds δ = .nx δ
  | [], _ => rfl
  | d :: ds, h => by
    obtain ⟨δ1, e1, δ2, e2, e3⟩ := h d List.mem_cons_self
    show (match g d δ with | none => RS.bad | some δ1 => loopK ws (b δ1) (forF ws g b ds)) = _
    rw [e1]
    show loopK ws (b δ1) (forF ws g b ds) = _
    rw [e2]
    show forF ws g b ds (fgt ws δ2) = _
    rw [e3]
    exact forF_const fun d hd => h d (List.mem_cons_of_mem _ hd)
/-- where a turn leaves the frame -/
def finK (ws : List Nat) : RS → Option En
  | .nx δ => some (fgt ws δ)
  | .ct δ => some (fgt ws δ)
  | _ => none
theorem finK_nx {ws : List Nat} {δ : En} : finK ws (.nx δ) = some (fgt ws δ) := rfl
theorem finK_ct {ws : List Nat} {δ : En} : finK ws (.ct δ) = some (fgt ws δ) := rfl
theorem forF_fin {ws : List Nat} {g : D → En → Option En} {b : SDen} {δ : En} : ∀ {ds : List D}, (∀ d ∈ ds, ∃ δ1, g d δ = some δ1 ∧ finK ws (b δ1) = some δ) → forF ws g b ds δ = .nx δ
  | [], _ => rfl
  | d :: ds, h => by
    obtain ⟨δ1, e1, e2⟩ := h d List.mem_cons_self
    show (match g d δ with | none => RS.bad | some δ1 => loopK ws (b δ1) (forF ws g b ds)) = _
    rw [e1]
    show loopK ws (b δ1) (forF ws g b ds) = _
    cases eb : b δ1 with
    | nx δ2 =>
      rw [eb] at e2
      show forF ws g b ds (fgt ws δ2) = _
      rw [Option.some.inj e2]
      exact forF_fin fun d hd => h d (List.mem_cons_of_mem _ hd)
    | ct δ2 =>
      rw [eb] at e2
      show forF ws g b ds (fgt ws δ2) = _
      rw [Option.some.inj e2]
      exact forF_fin fun d hd => h d (List.mem_cons_of_mem _ hd)
    | _ => rw [eb] at e2; cases e2
theorem forF_n {ws : List Nat} {g : D → En → Option En} {b : SDen} {δ : En} : forF ws g b [] δ = .nx δ := rfl
def fK (ws : List Nat) (b : SDen) (k : En → RS) : Option En → RS
  | some δ1 => loopK ws (b δ1) k
  | none => .bad
theorem forF_c {ws : List Nat} {g : D → En → Option En} {b : SDen} {d : D} {ds : List D} {δ : En} : forF ws g b (d :: ds) δ = fK ws b (forF ws g b ds) (g d δ) := by
  show (match g d δ with | none => RS.bad | some δ1 => loopK ws (b δ1) (forF ws g b ds)) = _
  cases g d δ <;> rfl
theorem fK_s {ws : List Nat} {b : SDen} {k : En → RS} {δ : En} : fK ws b k (some δ) = loopK ws (b δ) k := rfl
theorem forF_step {ws : List Nat} {g : D → En → Option En} {b : SDen} {d : D} {ds : List D} {δ δ1 δ2 : En} (e1 : g d δ = some δ1) (e2 : b δ1 = .nx δ2) : forF ws g b (d :: ds) δ = forF ws g b ds (fgt ws δ2) := by
  show (match g d δ with | none => RS.bad | some δ1 => loopK ws (b δ1) (forF ws g b ds)) = _
  rw [e1]
  show loopK ws (b δ1) (forF ws g b ds) = _
  rw [e2]
  rfl
theorem whileF_step {ws : List Nat} {c : Den} {b : SDen} {n : Nat} {δ δ1 δ2 : En} (e1 : c δ = .ok (.bl true) δ1) (e2 : b δ1 = .nx δ2) : whileF ws c b (n + 1) δ = whileF ws c b n (fgt ws δ2) := by
  show bindTS (c δ) (fun k δ1 => if k then loopK ws (b δ1) (whileF ws c b n) else .nx δ1) = _
  rw [e1]
  show loopK ws (b δ1) (whileF ws c b n) = _
  rw [e2]
  rfl
theorem whileF_end {ws : List Nat} {c : Den} {b : SDen} {n : Nat} {δ δ1 : En} (e1 : c δ = .ok (.bl false) δ1) : whileF ws c b (n + 1) δ = .nx δ1 := by
  show bindTS (c δ) (fun k δ1 => if k then loopK ws (b δ1) (whileF ws c b n) else .nx δ1) = _
  rw [e1]
  rfl
theorem rngD_0 {lo : Int} : rngD lo 0 = [] := rfl
theorem rngD_s {lo : Int} {n : Nat} : rngD lo (n + 1) = .int lo :: rngD (lo + 1) n := rfl
theorem mem_rngD {d : D} : ∀ {lo : Int} {n : Nat}, d ∈ rngD lo n → ∃ k : Int, d = .int k ∧ lo ≤ k ∧ k < lo + n
  | lo, 0, h => by cases h
  | lo, n + 1, h => by
    rcases List.mem_cons.mp h with e | e
    · exact ⟨lo, e, Int.le_refl _, by omega⟩
    · obtain ⟨k, e, h1, h2⟩ := mem_rngD e
      exact ⟨k, e, by omega, by omega⟩
/-! ### exceptions -/
section
variable {rs : List Nat} {c i k : Nat} {δ δ1 : En} {d : D} {fb fu : SDen} {hs : List (Nat × SDen)} {e : Exc} {f : SDen}
theorem sRaise_ : sRaise c δ = .rz ⟨c, []⟩ δ := rfl
def tryK (rs : List Nat) (c i : Nat) (fu : SDen) (r : RS) : RS :=
  match r with
  | .rz e δ1 => tryA1 rs c i fu e δ1
  | r => r
theorem sTryA_ : sTryA rs fb c i fu δ = tryK rs c i fu (fb δ) := rfl
theorem tryK_nx : tryK rs c i fu (.nx δ) = .nx δ := rfl
theorem tryK_rt : tryK rs c i fu (.rt d δ) = .rt d δ := rfl
theorem tryK_ro {o : O} : tryK rs c i fu (.ro o δ) = .ro o δ := rfl
theorem tryK_rz : tryK rs c i fu (.rz ⟨k, []⟩ δ) = if rs.contains k = true then (if subE k c = true then setX i k δ fun δ1 => catchS i (fu δ1) else .rz ⟨k, []⟩ δ) else .bad := rfl
def tryNK (rs : List Nat) (hs : List (Nat × SDen)) (r : RS) : RS :=
  match r with
  | .rz e δ1 => tryN1 rs hs e δ1
  | r => r
theorem sTryN_ : sTryN rs fb hs δ = tryNK rs hs (fb δ) := rfl
theorem tryNK_nx : tryNK rs hs (.nx δ) = .nx δ := rfl
theorem tryNK_rt : tryNK rs hs (.rt d δ) = .rt d δ := rfl
theorem tryNK_ro {o : O} : tryNK rs hs (.ro o δ) = .ro o δ := rfl
theorem tryNK_rz : tryNK rs hs (.rz ⟨k, []⟩ δ) = if rs.contains k = true then pickH ⟨k, []⟩ δ hs else .bad := rfl
theorem pickH_n : pickH e δ [] = .rz e δ := rfl
theorem pickH_c : pickH e δ ((c, f) :: hs) = if subE e.c c = true then noRz (f δ) else pickH e δ hs := rfl
theorem noRz_nx : noRz (.nx δ) = .nx δ := rfl
theorem noRz_rt : noRz (.rt d δ) = .rt d δ := rfl
def setXK (s : Option Sl) (i c : Nat) (δ : En) (k : En → RS) : RS :=
  match s with
  | none => .bad
  | some (.pi _) => .bad
  | some _ => k (δ.set i (.va (.exc c)))
theorem setX_ {q : En → RS} : setX i c δ q = setXK δ[i]? i c δ q := rfl
theorem setXK_va {q : En → RS} : setXK (some (.va d)) i c δ q = q (δ.set i (.va (.exc c))) := rfl
theorem setXK_no {q : En → RS} : setXK (some .no) i c δ q = q (δ.set i (.va (.exc c))) := rfl
def clrK (s : Option Sl) (i : Nat) (δ : En) (k : En → RS) : RS :=
  match s with
  | some (.pi _) => .bad
  | _ => k (δ.set i .no)
theorem catchS_nx : catchS i (.nx δ) = clrK δ[i]? i δ .nx := rfl
theorem catchS_rt : catchS i (.rt d δ) = .rt d δ := rfl
theorem clrK_va {q : En → RS} : clrK (some (.va d)) i δ q = q (δ.set i .no) := rfl
theorem dCallT_ {g : List D → RD} {fs : List Den} : dCallT g i fs δ = hotL g i fs δ δ[i]? := rfl
def kHot (g : List D → RD) (c : Nat) (ds : List D) (δ1 : En) : RE := ofD (g (.exc c :: ds)) δ1
theorem hotL_x {g : List D → RD} {fs : List Den} : hotL g i fs δ (some (.va (.exc c))) = bindA (dArgs fs δ) (kHot g c) := rfl
theorem kHot_ {g : List D → RD} {ds : List D} : kHot g c ds δ1 = ofD (g (.exc c :: ds)) δ1 := rfl
theorem isED_x : isED rs i (.exc c) = if rs.contains c = true then some (.bl (subE c i)) else none := rfl
theorem subE_ : subE c k = (c == k || k == 0 || k == 15) := rfl
def dDic : Den := fun δ => .ok (.dic [] []) δ
theorem dDic_ : dDic δ = .ok (.dic [] []) δ := rfl
end
section
variable {δ : En} {d x y k : D} {ds : List D} {fa fb fc fi : Den} {i : Nat} {b : Bool} {c : Exc} {g g' : D → D → Option D} {h : List D → RD} {f : FDen} {o r : O}
theorem dCallN_ : dCallN h f δ = callNK h (f δ) := rfl
theorem fCallN_ : fCallN h f δ = callNKF h (f δ) := rfl
theorem callNK_ok : callNK h (.ok o δ) = ofN (h [ownD o]) δ := rfl
theorem callNK_rz : callNK h (.rz c δ) = .rz c δ := rfl
theorem callNKF_ok : callNKF h (.ok o δ) = ofNF (h [ownD o]) δ := rfl
theorem ofN_p : ofN (.okp d o) δ = .ok d δ := rfl
theorem ofN_w : ofN (.owp r o) δ = .ok (ownD r) δ := rfl
theorem ofNF_w : ofNF (.owp r o) δ = .ok r δ := rfl
theorem dChn_ : dChn g g' fa fb fc δ = bindE (fa δ) (chnK0 g g' fb fc) := rfl
theorem chnK0_ : chnK0 g g' fb fc x δ = bindE (fb δ) (chnK g g' fc x) := rfl
theorem chnK_ : chnK g g' fc x y δ = chnK1 g' fc y (g x y) δ := rfl
theorem chnK1_b : chnK1 g' fc y (some (.bl b)) δ = if b = true then bindE (fc δ) (chnK2 g' y) else .ok (.bl false) δ := by cases b <;> simp [chnK1]
theorem chnK2_ : chnK2 g' y x δ = ofO (g' y x) δ := rfl
theorem shlD_i {i j : Int} : shlD (.int i) (.int j) = if shlOk i j = true then some (.int (i * 2 ^ j.toNat)) else none := rfl
theorem bitD_i {i : Int} : bitD (.int i) = some (.int (Builtin.Int.intBits i : Nat)) := rfl
theorem dstD_l : dstD (.lst ds) = if ds.length < 64 then (tupsOf ds).map (fun ks => .int (cntT ks : Nat)) else none := rfl
theorem fDct_ : fDct fa δ = bindEF (fa δ) dctK := rfl
theorem fDsp_ {fs : List (Den × Den)} : fDsp fs δ = bindAF (dPrs fs δ) dspK := rfl
def dPr2 (r : List (Den × Den)) (k : D) : D → En → RA := fun v δ => bindAA (dPrs r δ) fun ds δ => .ok (k :: v :: ds) δ
def dPr1 (fv : Den) (r : List (Den × Den)) : D → En → RA := fun k δ => consA (fv δ) (dPr2 r k)
theorem dPrs_n : dPrs [] δ = .ok [] δ := rfl
theorem dPrs_c {r : List (Den × Den)} : dPrs ((fa, fb) :: r) δ = consA (fa δ) (dPr1 fb r) := rfl
theorem dPr1_ {r : List (Den × Den)} : dPr1 fb r k δ = consA (fb δ) (dPr2 r k) := rfl
theorem dPr2_ {r : List (Den × Den)} : dPr2 r k x δ = bindAA (dPrs r δ) (fun ds δ => .ok (k :: x :: ds) δ) := rfl
def insS (s : Option O) (r : RE) (q : D → En → RS) : RS := match s with
  | some (.lst _) => bindES r q
  | _ => .bad
def kIns2 (i : Nat) (k : D) : D → En → RS := fun d δ2 => insK i k d (ownAt δ2 i) δ2
def kIns1 (i : Nat) (f : Den) : D → En → RS := fun k δ1 => bindES (f δ1) (kIns2 i k)
theorem sIns_ : sIns i fi fa δ = insS (ownAt δ i) (fi δ) (kIns1 i fa) := by
  unfold sIns insS
  cases ownAt δ i with
  | none => rfl
  | some o => cases o <;> rfl
theorem insS_l {q : D → En → RS} {r : RE} : insS (some (.lst ds)) r q = bindES r q := rfl
theorem kIns1_ : kIns1 i fa k δ = bindES (fa δ) (kIns2 i k) := rfl
theorem kIns2_ : kIns2 i k d δ = insK i k d (ownAt δ i) δ := rfl
theorem insK_l {k : Int} (h : ds.length < 1000000 ∧ 0 ≤ k ∧ k < 9223372036854775808) : insK i (.int k) d (some (.lst ds)) δ = .nx (setOwn δ i (.lst (ds.take k.toNat ++ [d] ++ ds.drop k.toNat))) := if_pos h
def kAugI (q : Bool) (i : Nat) (f : Den) : D → En → RS := fun k δ1 => augIK q i f k (ownAt δ1 i) δ1
theorem sAugI_ {q : Bool} : sAugI q i fi fa δ = insS (ownAt δ i) (fi δ) (kAugI q i fa) := by
  unfold sAugI insS
  cases ownAt δ i with
  | none => rfl
  | some o => cases o <;> rfl
theorem kAugI_ {q : Bool} : kAugI q i fa k δ = augIK q i fa k (ownAt δ i) δ := rfl
def augIA (q : Bool) (i : Nat) (f : Den) (k : Int) (s : Option D) (δ1 : En) : RS := match s with
  | some x => bindES (f δ1) fun d δ2 => augIK2 i (.int k) (augD q x d) δ2
  | none => .bad
def kAug2 (q : Bool) (i : Nat) (k : Int) (x : D) : D → En → RS := fun d δ2 => augIK2 i (.int k) (augD q x d) δ2
theorem augIK_l {q : Bool} {k : Int} : augIK q i fa (.int k) (some (.lst ds)) δ = augIA q i fa k (atI ds k) δ := rfl
theorem augIA_s {q : Bool} {k : Int} : augIA q i fa k (some x) δ = bindES (fa δ) (kAug2 q i k x) := rfl
theorem kAug2_ {q : Bool} {k : Int} : kAug2 q i k x d δ = augIK2 i (.int k) (augD q x d) δ := rfl
theorem augIK2_s : augIK2 i k (some x) δ = subK i x k δ := rfl
theorem augD_i {q : Bool} {a b : Int} : augD q (.int a) (.int b) = some (.int (if q = true then a + b else a - b)) := rfl
theorem sPar3_ {fs : List Den} {j l : Nat} : sPar3 i j l fs δ = par3K i j l (dArgs fs δ) := rfl
def nxO3 : Option En → RS
  | some δ => .nx δ
  | none => .bad
theorem nxO3_s : nxO3 (some δ) = .nx δ := rfl
theorem par3K_ok {j l : Nat} {a b c : D} : par3K i j l (.ok [a, b, c] δ) = nxO3 (((stD i a δ).bind (stD j b)).bind (stD l c)) := by
  show (match st3 i j l a b c δ with
    | some δ => RS.nx δ
    | none => .bad) = _
  unfold st3
  cases stD i a δ with
  | none => rfl
  | some δ1 =>
    dsimp only [Option.bind]
    cases stD j b δ1 with
    | none => rfl
    | some δ2 =>
      dsimp only [Option.bind]
      cases stD l c δ2 <;> rfl
theorem dCmpR_ : dCmpR g i fa δ = bindE (fa δ) (kCmpR g i) := rfl
theorem kCmpR_ : kCmpR g i x δ = bKQ g x (peek δ i) δ := rfl
theorem bKQ_s : bKQ g x (some d) δ = blK (g x d) δ := rfl
theorem blK_b : blK (some (.bl b)) δ = .ok (.bl b) δ := rfl
end
end Z

namespace Z
open PySem PySem.Spec PyProof.Rows L2
/-! ### fractions -/
def fr (q : Rat) : D := .tup [.int q.num, .int (q.den : Int)]
def BR (n : Nat) (q : Rat) : Prop := B n q.num ∧ B n (q.den : Int)
def byQ (a b : Int) : Int := if b < 0 then -(Int.gcd a b : Int) else (Int.gcd a b : Int)
theorem fr_divInt {a b : Int} (h : b ≠ 0) : (Rat.divInt a b).num = a.fdiv (byQ a b) ∧ ((Rat.divInt a b).den : Int) = b.fdiv (byQ a b) := by
  rw [Rat.num_divInt, Rat.den_divInt, if_neg h, Int.gcd_comm b a]
  unfold byQ
  have g0 : 0 ≤ (Int.gcd a b : Int) := by omega
  split
  · next hb =>
    rw [Int.sign_eq_neg_one_of_neg hb, ← Int.neg_fdiv_neg a, ← Int.neg_fdiv_neg b, Int.neg_neg, Int.fdiv_eq_ediv_of_nonneg _ g0, Int.fdiv_eq_ediv_of_nonneg _ g0, Int.natCast_ediv]
    refine ⟨by congr 1; omega, by congr 1; omega⟩
  · next hb =>
    rw [Int.sign_eq_one_of_pos (by omega), Int.fdiv_eq_ediv_of_nonneg _ g0, Int.fdiv_eq_ediv_of_nonneg _ g0, Int.natCast_ediv]
    refine ⟨by congr 1; omega, by congr 1; omega⟩
theorem byQ_ne {a b : Int} (h : b ≠ 0) : byQ a b ≠ 0 := by
  have := Int.gcd_pos_of_ne_zero_right a h
  unfold byQ
  split <;> omega
theorem B.dvd {n : Nat} {g t : Int} (d : g ∣ t) (h : t ≠ 0) (b : B n t) : B n g := by
  have := Int.natAbs_dvd_natAbs.mpr d
  have := Nat.le_of_dvd (by omega) this
  unfold B at *
  omega
theorem byQ_B {n : Nat} {a b : Int} (h : b ≠ 0) (hb : B n b) : B n (byQ a b) := by
  have : B n (Int.gcd a b : Int) := B.dvd (Int.gcd_dvd_right a b) h hb
  unfold byQ
  split
  · exact this.neg
  · exact this
theorem BR.divInt {n : Nat} {a b : Int} (h : b ≠ 0) (ha : B n a) (hb : B n b) : BR n (Rat.divInt a b) := by
  obtain ⟨e1, e2⟩ := fr_divInt (a := a) h
  unfold BR
  rw [e1, e2]
  exact ⟨ha.fdiv _, hb.fdiv _⟩
theorem den_ne (q : Rat) : (q.den : Int) ≠ 0 := by have := q.den_nz; omega
theorem den_pos' (q : Rat) : 0 < (q.den : Int) := by have := q.den_nz; omega
theorem add_divI (p q : Rat) : Rat.divInt (p.num * q.den + q.num * p.den) (p.den * q.den) = p + q := by
  rw [← Rat.divInt_add_divInt _ _ (den_ne p) (den_ne q), Rat.num_divInt_den, Rat.num_divInt_den]
theorem sub_divI (p q : Rat) : Rat.divInt (p.num * q.den - q.num * p.den) (p.den * q.den) = p - q := by
  rw [← Rat.divInt_sub_divInt _ _ (den_ne p) (den_ne q), Rat.num_divInt_den, Rat.num_divInt_den]
theorem mul_divI (p q : Rat) : Rat.divInt (p.num * q.num) (p.den * q.den) = p * q := by
  rw [← Rat.divInt_mul_divInt, Rat.num_divInt_den, Rat.num_divInt_den]
theorem div_divI (p q : Rat) : Rat.divInt (p.num * q.den) (p.den * q.num) = p / q := by
  rw [← Rat.divInt_mul_divInt, Rat.num_divInt_den, ← Rat.inv_def, Rat.div_def]
theorem BR.add {n m : Nat} {p q : Rat} (h : BR n p) (k : BR m q) : BR (n + m + 1) (p + q) := by
  rw [← add_divI]
  refine BR.divInt (Int.mul_ne_zero (den_ne p) (den_ne q)) ?_ ?_
  · apply (B.add (B.mul h.1 k.2) (B.mul k.1 h.2)).mono; omega
  · apply (B.mul h.2 k.2).mono; omega
theorem BR.sub {n m : Nat} {p q : Rat} (h : BR n p) (k : BR m q) : BR (n + m + 1) (p - q) := by
  rw [← sub_divI]
  refine BR.divInt (Int.mul_ne_zero (den_ne p) (den_ne q)) ?_ ?_
  · apply (B.sub (B.mul h.1 k.2) (B.mul k.1 h.2)).mono; omega
  · apply (B.mul h.2 k.2).mono; omega
theorem BR.mul {n m : Nat} {p q : Rat} (h : BR n p) (k : BR m q) : BR (n + m) (p * q) := by
  rw [← mul_divI]
  exact BR.divInt (Int.mul_ne_zero (den_ne p) (den_ne q)) (B.mul h.1 k.1) (B.mul h.2 k.2)
theorem BR.mono {n m : Nat} {q : Rat} (h : BR n q) (l : n ≤ m) : BR m q := ⟨h.1.mono l, h.2.mono l⟩
theorem fr_inj {p q : Rat} : (p.num = q.num ∧ (p.den : Int) = q.den) ↔ p = q :=
  ⟨fun h => Rat.ext h.1 (by omega), fun h => by subst h; exact ⟨rfl, rfl⟩⟩
theorem shp_fr {n : Nat} {q : Rat} : shp (n + 1) (fr q) = true := by
  unfold fr
  rw [shp_t, shps_c, shps_c, shps_n, shp_i, shp_i]
  rfl
theorem eqs_fr {p q : Rat} : eqs [.int p.num, .int (p.den : Int)] [.int q.num, .int (q.den : Int)] = decide (p = q) := by
  rw [eqs_cc, eqs_cc, eqs_nn, eq1_ii, eq1_ii, Bool.and_true, ← Bool.decide_and]
  exact decide_eq_decide.mpr fr_inj
theorem cop_eq_fr {p q : Rat} : COp.fn .eq (fr p) (fr q) = some (.bl (decide (p = q))) := by
  have h := shp_fr (n := 63) (q := p)
  have h' := shp_fr (n := 63) (q := q)
  unfold fr at *
  rw [cop_eq_tt h h', eqs_fr]
theorem cop_ne_fr {p q : Rat} : COp.fn .ne (fr p) (fr q) = some (.bl (!decide (p = q))) := by
  have h := shp_fr (n := 63) (q := p)
  have h' := shp_fr (n := 63) (q := q)
  unfold fr at *
  rw [cop_ne_tt h h', eqs_fr]
theorem fr_0 : (.tup [.int 0, .int 1] : D) = fr 0 := rfl
/-! ### numbers divided by all that divides them -/
def gl : List Int → Nat
  | [] => 0
  | x :: xs => Int.gcd x (gl xs)
def lz : List Int → Int
  | [] => 0
  | x :: xs => if lz xs = 0 then x else lz xs
def byL (xs : List Int) : Int := if lz xs < 0 then -(gl xs : Int) else gl xs
def nrm (xs : List Int) : List Int := xs.map fun x => x.fdiv (byL xs)
def sc (k : Int) (xs : List Int) : List Int := xs.map fun x => k * x
theorem gl_foldl : ∀ (xs : List Int) (g : Nat), xs.foldl (fun (g : Nat) x => Int.gcd g x) g = Nat.gcd g (gl xs)
  | [], g => by simp [gl]
  | x :: xs, g => by
    rw [List.foldl_cons, gl_foldl xs]
    show Nat.gcd (Nat.gcd g x.natAbs) (gl xs) = Nat.gcd g (Nat.gcd x.natAbs (gl xs))
    rw [Nat.gcd_assoc]
theorem gl_foldl0 (xs : List Int) : xs.foldl (fun (g : Nat) x => Int.gcd g x) 0 = gl xs := by rw [gl_foldl]; simp
theorem gl_dvd : ∀ {xs : List Int} {x : Int}, x ∈ xs → (gl xs : Int) ∣ x
  | y :: xs, x, h => by
    rcases List.mem_cons.mp h with e | e
    · subst e; exact Int.gcd_dvd_left _ _
    · exact Int.dvd_trans (Int.gcd_dvd_right _ _) (gl_dvd e)
theorem lz_mul {k : Int} (hk : k ≠ 0) : ∀ (xs : List Int), lz (sc k xs) = k * lz xs
  | [] => by simp [lz, sc]
  | x :: xs => by
    have := lz_mul hk xs
    unfold sc at *
    rw [List.map_cons, lz, lz, this]
    by_cases h : lz xs = 0
    · rw [if_pos h, if_pos (by rw [h, Int.mul_zero])]
    · rw [if_neg h, if_neg (Int.mul_ne_zero hk h)]
theorem gl_mul (k : Int) : ∀ (xs : List Int), gl (sc k xs) = k.natAbs * gl xs
  | [] => by simp [gl, sc]
  | x :: xs => by
    have := gl_mul k xs
    unfold sc at *
    rw [List.map_cons, gl, gl, this]
    show Nat.gcd (k * x).natAbs (k.natAbs * gl xs) = k.natAbs * Nat.gcd x.natAbs (gl xs)
    rw [Int.natAbs_mul, Nat.gcd_mul_left]
theorem lz_mem : ∀ {xs : List Int}, lz xs ≠ 0 → lz xs ∈ xs
  | [], h => absurd rfl h
  | x :: xs, h => by
    rw [lz] at *
    split
    · exact List.mem_cons_self
    · next h' => exact List.mem_cons_of_mem _ (lz_mem h')
theorem lz_zero : ∀ {xs : List Int}, lz xs = 0 → ∀ x ∈ xs, x = 0
  | y :: xs, h, x, hx => by
    rw [lz] at h
    split at h
    · next h' =>
      rcases List.mem_cons.mp hx with e | e
      · rw [e, h]
      · exact lz_zero h' x e
    · next h' => exact absurd h h'
theorem lz_ne {xs : List Int} {x : Int} (h : x ∈ xs) (hx : x ≠ 0) : lz xs ≠ 0 := fun e => hx (lz_zero e x h)
theorem gl_pos {xs : List Int} (h : lz xs ≠ 0) : 0 < gl xs := by
  rcases Nat.eq_zero_or_pos (gl xs) with e | e
  · have d := gl_dvd (lz_mem h)
    rw [e] at d
    exact absurd (Int.zero_dvd.mp d) h
  · exact e
theorem byL_ne {xs : List Int} (h : lz xs ≠ 0) : byL xs ≠ 0 := by
  have := gl_pos h
  unfold byL
  split <;> omega
theorem byL_dvd {xs : List Int} {x : Int} (h : x ∈ xs) : byL xs ∣ x := by
  have := gl_dvd h
  unfold byL
  split
  · exact Int.neg_dvd.mpr this
  · exact this
theorem byL_mul {k : Int} {xs : List Int} (hk : k ≠ 0) (h : lz xs ≠ 0) : byL (sc k xs) = k * byL xs := by
  unfold byL
  rw [lz_mul hk, gl_mul, Int.natCast_mul]
  rcases Int.lt_or_lt_of_ne hk with c | c <;> rcases Int.lt_or_lt_of_ne h with d | d
  · rw [if_neg (by have := Int.mul_pos_of_neg_of_neg c d; omega), if_pos d, show (k.natAbs : Int) = -k by omega]; grind
  · rw [if_pos (Int.mul_neg_of_neg_of_pos c d), if_neg (by omega), show (k.natAbs : Int) = -k by omega]; grind
  · rw [if_pos (Int.mul_neg_of_pos_of_neg c d), if_pos d, show (k.natAbs : Int) = k by omega]; grind
  · rw [if_neg (by have := Int.mul_pos c d; omega), if_neg (by omega), show (k.natAbs : Int) = k by omega]
theorem nrm_mul {k : Int} {xs : List Int} (hk : k ≠ 0) (h : lz xs ≠ 0) : nrm (sc k xs) = nrm xs := by
  unfold nrm
  rw [byL_mul hk h]
  unfold sc
  rw [List.map_map]
  refine List.map_congr_left fun x hx => ?_
  obtain ⟨t, e⟩ := byL_dvd hx
  have b := byL_ne h
  show (k * x).fdiv (k * byL xs) = x.fdiv (byL xs)
  generalize byL xs = c at *
  subst e
  rw [Int.mul_fdiv_cancel_left _ b, ← Int.mul_assoc, Int.mul_fdiv_cancel_left _ (Int.mul_ne_zero hk b)]
theorem nrm_eq {xs : List Int} (h : lz xs ≠ 0) : sc (byL xs) (nrm xs) = xs := by
  unfold sc nrm
  rw [List.map_map]
  conv => rhs; rw [← List.map_id xs]
  refine List.map_congr_left fun x hx => ?_
  obtain ⟨t, e⟩ := byL_dvd hx
  have b := byL_ne h
  show byL xs * x.fdiv (byL xs) = x
  generalize byL xs = c at *
  subst e
  rw [Int.mul_fdiv_cancel_left _ b]
theorem lz_nrm {xs : List Int} (h : lz xs ≠ 0) : 0 < lz (nrm xs) := by
  have e : lz xs = byL xs * lz (nrm xs) := by rw [← lz_mul (byL_ne h), nrm_eq h]
  have b := byL_ne h
  have g := gl_pos h
  rcases Int.lt_trichotomy (lz (nrm xs)) 0 with c | c | c
  · exfalso
    rcases Int.lt_or_lt_of_ne b with d | d
    · have := Int.mul_pos_of_neg_of_neg d c
      unfold byL at d this e
      split at d <;> omega
    · have := Int.mul_neg_of_pos_of_neg d c
      unfold byL at d this e
      split at d <;> omega
  · rw [c] at e; omega
  · exact c
theorem nrm_nrm {xs : List Int} (h : lz xs ≠ 0) : nrm (nrm xs) = nrm xs := by
  have h' : lz (nrm xs) ≠ 0 := by have := lz_nrm h; omega
  have := nrm_mul (byL_ne h) h'
  rw [nrm_eq h] at this
  exact this.symm
theorem byL_nrm {xs : List Int} (h : lz xs ≠ 0) : byL (nrm xs) = 1 := by
  have h' : lz (nrm xs) ≠ 0 := by have := lz_nrm h; omega
  have e := byL_mul (byL_ne h) h'
  rw [nrm_eq h] at e
  have b := byL_ne h
  have : byL xs * 1 = byL xs * byL (nrm xs) := by omega
  exact (Int.eq_of_mul_eq_mul_left b this).symm
theorem sc_sc (k l : Int) (xs : List Int) : sc k (sc l xs) = sc (k * l) xs := by
  unfold sc
  rw [List.map_map]
  refine List.map_congr_left fun x _ => ?_
  show k * (l * x) = k * l * x
  rw [Int.mul_assoc]
theorem nrm_par {k l : Int} {xs ys : List Int} (hk : k ≠ 0) (hl : l ≠ 0) (hx : lz xs ≠ 0) (hy : lz ys ≠ 0) (e : sc k xs = sc l ys) : nrm xs = nrm ys := by
  rw [← nrm_mul hk hx, e, nrm_mul hl hy]
theorem nrm_len (xs : List Int) : (nrm xs).length = xs.length := by simp [nrm]
theorem B_byL {n : Nat} {xs : List Int} (h : lz xs ≠ 0) (b : ∀ x ∈ xs, B n x) : B n (byL xs) :=
  B.dvd (byL_dvd (lz_mem h)) h (b _ (lz_mem h))
theorem B_gl {n : Nat} {xs : List Int} (h : lz xs ≠ 0) (b : ∀ x ∈ xs, B n x) : B n (gl xs : Int) :=
  B.dvd (gl_dvd (lz_mem h)) h (b _ (lz_mem h))
theorem B_nrm {n : Nat} {xs : List Int} (b : ∀ x ∈ xs, B n x) : ∀ y ∈ nrm xs, B n y := fun y hy => by
  unfold nrm at hy
  obtain ⟨x, hx, rfl⟩ := List.mem_map.mp hy
  exact (b x hx).fdiv _
theorem lz_last : ∀ (xs : List Int), (xs.filter fun x => !decide (x = 0)).getLast? = if lz xs = 0 then none else some (lz xs)
  | [] => rfl
  | x :: xs => by
    have ih := lz_last xs
    rw [lz]
    by_cases h : x = 0
    · rw [List.filter_cons_of_neg (by simp [h]), ih]
      by_cases h' : lz xs = 0
      · simp [h', h]
      · simp [h']
    · rw [List.filter_cons_of_pos (by simp [h]), List.getLast?_cons, ih]
      by_cases h' : lz xs = 0
      · simp [h', h]
      · simp [h']
theorem lz_at {xs : List Int} (h : lz xs ≠ 0) : atI ((xs.filter fun x => !decide (x = 0)).map D.int) (-1) = some (.int (lz xs)) := by
  have := lz_last xs
  rw [if_neg h, List.getLast?_eq_getElem?] at this
  rw [atI_m1, List.getElem?_map, List.length_map, this]
  rfl
/-! ### the first one above 0 -/
def fz : List Int → Int
  | [] => 0
  | x :: xs => if x = 0 then fz xs else x
def byF (xs : List Int) : Int := if fz xs < 0 then -(gl xs : Int) else gl xs
def nrmF (xs : List Int) : List Int := xs.map fun x => x.fdiv (byF xs)
theorem fz_mem : ∀ {xs : List Int}, fz xs ≠ 0 → fz xs ∈ xs
  | [], h => absurd rfl h
  | x :: xs, h => by
    rw [fz] at *
    split
    · next h' => rw [if_pos h'] at h; exact List.mem_cons_of_mem _ (fz_mem h)
    · exact List.mem_cons_self
theorem fz_zero : ∀ {xs : List Int}, fz xs = 0 → ∀ x ∈ xs, x = 0
  | y :: xs, h, x, hx => by
    rw [fz] at h
    split at h
    · next h' =>
      rcases List.mem_cons.mp hx with e | e
      · rw [e, h']
      · exact fz_zero h x e
    · next h' => exact absurd h h'
theorem fz_ne {xs : List Int} {x : Int} (h : x ∈ xs) (hx : x ≠ 0) : fz xs ≠ 0 := fun e => hx (fz_zero e x h)
theorem fz_lz {xs : List Int} (h : fz xs ≠ 0) : lz xs ≠ 0 := lz_ne (fz_mem h) h
theorem fz_mul {k : Int} (hk : k ≠ 0) : ∀ (xs : List Int), fz (sc k xs) = k * fz xs
  | [] => by simp [fz, sc]
  | x :: xs => by
    have := fz_mul hk xs
    unfold sc at *
    rw [List.map_cons, fz, fz, this]
    by_cases h : x = 0
    · rw [if_pos h, if_pos (by rw [h, Int.mul_zero])]
    · rw [if_neg h, if_neg (Int.mul_ne_zero hk h)]
theorem byF_ne {xs : List Int} (h : fz xs ≠ 0) : byF xs ≠ 0 := by
  have := gl_pos (fz_lz h)
  unfold byF
  split <;> omega
theorem byF_dvd {xs : List Int} {x : Int} (h : x ∈ xs) : byF xs ∣ x := by
  have := gl_dvd h
  unfold byF
  split
  · exact Int.neg_dvd.mpr this
  · exact this
theorem byF_mul {k : Int} {xs : List Int} (hk : k ≠ 0) (h : fz xs ≠ 0) : byF (sc k xs) = k * byF xs := by
  unfold byF
  rw [fz_mul hk, gl_mul, Int.natCast_mul]
  rcases Int.lt_or_lt_of_ne hk with c | c <;> rcases Int.lt_or_lt_of_ne h with d | d
  · rw [if_neg (by have := Int.mul_pos_of_neg_of_neg c d; omega), if_pos d, show (k.natAbs : Int) = -k by omega]; grind
  · rw [if_pos (Int.mul_neg_of_neg_of_pos c d), if_neg (by omega), show (k.natAbs : Int) = -k by omega]; grind
  · rw [if_pos (Int.mul_neg_of_pos_of_neg c d), if_pos d, show (k.natAbs : Int) = k by omega]; grind
  · rw [if_neg (by have := Int.mul_pos c d; omega), if_neg (by omega), show (k.natAbs : Int) = k by omega]
theorem nrmF_mul {k : Int} {xs : List Int} (hk : k ≠ 0) (h : fz xs ≠ 0) : nrmF (sc k xs) = nrmF xs := by
  unfold nrmF
  rw [byF_mul hk h]
  unfold sc
  rw [List.map_map]
  refine List.map_congr_left fun x hx => ?_
  obtain ⟨t, e⟩ := byF_dvd hx
  have b := byF_ne h
  show (k * x).fdiv (k * byF xs) = x.fdiv (byF xs)
  generalize byF xs = c at *
  subst e
  rw [Int.mul_fdiv_cancel_left _ b, ← Int.mul_assoc, Int.mul_fdiv_cancel_left _ (Int.mul_ne_zero hk b)]
theorem nrmF_eq {xs : List Int} (h : fz xs ≠ 0) : sc (byF xs) (nrmF xs) = xs := by
  unfold sc nrmF
  rw [List.map_map]
  conv => rhs; rw [← List.map_id xs]
  refine List.map_congr_left fun x hx => ?_
  obtain ⟨t, e⟩ := byF_dvd hx
  have b := byF_ne h
  show byF xs * x.fdiv (byF xs) = x
  generalize byF xs = c at *
  subst e
  rw [Int.mul_fdiv_cancel_left _ b]
theorem B_byF {n : Nat} {xs : List Int} (h : fz xs ≠ 0) (b : ∀ x ∈ xs, B n x) : B n (byF xs) := B.dvd (byF_dvd (fz_mem h)) h (b _ (fz_mem h))
theorem B_nrmF {n : Nat} {xs : List Int} (b : ∀ x ∈ xs, B n x) : ∀ y ∈ nrmF xs, B n y := fun y hy => by
  unfold nrmF at hy
  obtain ⟨x, hx, rfl⟩ := List.mem_map.mp hy
  exact (b x hx).fdiv _
theorem fz_head : ∀ (xs : List Int), (xs.filter fun x => !decide (x = 0)).head? = if fz xs = 0 then none else some (fz xs)
  | [] => rfl
  | x :: xs => by
    rw [fz]
    by_cases h : x = 0
    · rw [List.filter_cons_of_neg (by simp [h]), fz_head xs, if_pos h]
    · rw [List.filter_cons_of_pos (by simp [h]), if_neg h, if_neg h]
      rfl
theorem fz_at {xs : List Int} (h : fz xs ≠ 0) : atI ((xs.filter fun x => !decide (x = 0)).map D.int) 0 = some (.int (fz xs)) := by
  have := fz_head xs
  rw [if_neg h] at this
  cases hf : xs.filter fun x => !decide (x = 0) with
  | nil => rw [hf] at this; cases this
  | cons y ys =>
    rw [hf] at this
    rw [List.map_cons, atI_0]
    exact congrArg (Option.map D.int) this
theorem cop_eq_ss {a b : Str} (ha : PyData.strOk a = true) (hb : PyData.strOk b = true) : COp.fn .eq (.str a) (.str b) = some (.bl (a == b)) := by
  show (eqD _ _).map D.bl = _
  rw [eqD_shp (by rw [shp_s]; exact ha) (by rw [shp_s]; exact hb), eq1_ss]
  rfl
/-! ### three -/
theorem lz3 {x y z : Int} : lz [x, y, z] ≠ 0 ↔ ¬(x = 0 ∧ y = 0 ∧ z = 0) := by
  constructor
  · rintro h ⟨rfl, rfl, rfl⟩; exact h rfl
  · intro h e
    exact h ⟨lz_zero e x (by simp), lz_zero e y (by simp), lz_zero e z (by simp)⟩
theorem shps_ints {n : Nat} : ∀ {xs : List Int}, shps n (xs.map D.int) = true
  | [] => shps_n
  | x :: xs => by rw [List.map_cons, shps_c, shp_i, shps_ints]; rfl
theorem isin_ints {i : Int} {xs : List Int} : COp.fn .isin (.int i) (.lst (xs.map D.int)) = some (.bl (decide (i ∈ xs))) := by
  have s1 : SeqAt.shaped (toPy (.int i)) = true := by
    obtain ⟨a, b⟩ := shp_ok (.int i) 64 shp_i
    unfold SeqAt.shaped
    rw [a, decide_eq_true b]
    rfl
  have s2 : SeqAt.shaped (.list (toPys (xs.map D.int))) = true := by
    obtain ⟨a, b⟩ := shp_ok (.lst (xs.map D.int)) 64 (by rw [shp_l]; exact shps_ints)
    unfold toPy at a b
    unfold SeqAt.shaped
    rw [a, decide_eq_true b]
    rfl
  have s3 : ∀ ys : List Int, ((toPys (ys.map D.int)).any fun z => PyData.eqv z (toPy (.int i))) = decide (i ∈ ys) := by
    intro ys
    induction ys with
    | nil => unfold toPys List.map; simp
    | cons y ys ih =>
      rw [List.map_cons, toPys, List.any_cons, ih]
      have : PyData.eqv (toPy (.int y)) (toPy (.int i)) = decide (y = i) := eq1_ii
      rw [this, ← Bool.decide_or]
      refine decide_eq_decide.mpr ?_
      rw [List.mem_cons]
      exact ⟨fun h => h.elim (fun e => .inl e.symm) .inr, fun h => h.elim (fun e => .inl e.symm) .inr⟩
  show (if SeqAt.shaped (toPy (.int i)) && SeqAt.shaped (.list (toPys (xs.map D.int))) then some ((toPys (xs.map D.int)).any fun z => PyData.eqv z (toPy (.int i))) else none).map D.bl = _
  rw [s1, s2, s3]
  rfl
/-! ### triples -/
structure V3 where
  x : Int
  y : Int
  z : Int
deriving DecidableEq
namespace V3
@[ext] theorem ext' {a b : V3} (h1 : a.x = b.x) (h2 : a.y = b.y) (h3 : a.z = b.z) : a = b := by
  cases a; cases b; cases h1; cases h2; cases h3; rfl
def tr (a : V3) : D := .tup [.int a.x, .int a.y, .int a.z]
def cr (a b : V3) : V3 := ⟨a.y * b.z - a.z * b.y, a.z * b.x - a.x * b.z, a.x * b.y - a.y * b.x⟩
def dt (a b : V3) : Int := a.x * b.x + a.y * b.y + a.z * b.z
def sm (k : Int) (a : V3) : V3 := ⟨k * a.x, k * a.y, k * a.z⟩
def ad (a b : V3) : V3 := ⟨a.x + b.x, a.y + b.y, a.z + b.z⟩
def li (a : V3) : List Int := [a.x, a.y, a.z]
def o3 : V3 := ⟨0, 0, 0⟩
def nm (a : V3) : V3 := ⟨a.x.fdiv (byL a.li), a.y.fdiv (byL a.li), a.z.fdiv (byL a.li)⟩
def BV (n : Nat) (a : V3) : Prop := B n a.x ∧ B n a.y ∧ B n a.z
theorem nm_li (a : V3) : (nm a).li = nrm a.li := rfl
theorem sm_li (k : Int) (a : V3) : (sm k a).li = sc k a.li := rfl
theorem li_inj {a b : V3} (h : a.li = b.li) : a = b := by
  unfold li at h
  simp only [List.cons.injEq, and_true] at h
  exact ext' h.1 h.2.1 h.2.2
theorem ne_iff {a : V3} : a ≠ o3 ↔ ¬(a.x = 0 ∧ a.y = 0 ∧ a.z = 0) := by
  constructor
  · intro h e; exact h (ext' e.1 e.2.1 e.2.2)
  · rintro h rfl; exact h ⟨rfl, rfl, rfl⟩
theorem lz_ne {a : V3} (h : a ≠ o3) : lz a.li ≠ 0 := lz3.mpr (ne_iff.mp h)
theorem nm_ex {a : V3} (h : a ≠ o3) : ∃ g : Int, g ≠ 0 ∧ a = sm g (nm a) :=
  ⟨byL a.li, byL_ne (lz_ne h), li_inj (by rw [sm_li, nm_li, nrm_eq (lz_ne h)])⟩
theorem nm_ne {a : V3} (h : a ≠ o3) : nm a ≠ o3 := fun e => by
  obtain ⟨g, _, q⟩ := nm_ex h
  rw [e] at q
  exact h (q.trans (ext' (Int.mul_zero _) (Int.mul_zero _) (Int.mul_zero _)))
theorem nm_sm {k : Int} {a : V3} (hk : k ≠ 0) (h : a ≠ o3) : nm (sm k a) = nm a := li_inj (by rw [nm_li, sm_li, nrm_mul hk (lz_ne h), nm_li])
theorem nm_nm {a : V3} (h : a ≠ o3) : nm (nm a) = nm a := li_inj (by rw [nm_li, nm_li, nrm_nrm (lz_ne h)])
theorem sm_ne {k : Int} {a : V3} (hk : k ≠ 0) (h : a ≠ o3) : sm k a ≠ o3 := by
  rw [ne_iff] at *
  simp only [sm, Int.mul_eq_zero, hk, false_or]
  exact h
theorem par {a b : V3} (ha : a ≠ o3) (hb : b ≠ o3) (h : cr a b = o3) : nm a = nm b := by
  have h1 : a.y * b.z - a.z * b.y = 0 := congrArg V3.x h
  have h2 : a.z * b.x - a.x * b.z = 0 := congrArg V3.y h
  have h3 : a.x * b.y - a.y * b.x = 0 := congrArg V3.z h
  have key : ∀ k l : Int, l ≠ 0 → sm k a = sm l b → nm a = nm b := fun k l hl e => by
    by_cases hk : k = 0
    · exfalso
      subst hk
      have : sm l b = o3 := e.symm.trans (ext' (Int.zero_mul _) (Int.zero_mul _) (Int.zero_mul _))
      exact sm_ne hl hb this
    · rw [← nm_sm hk ha, e, nm_sm hl hb]
  by_cases hx : a.x = 0
  · by_cases hy : a.y = 0
    · have hz : a.z ≠ 0 := fun e => ne_iff.mp ha ⟨hx, hy, e⟩
      exact key b.z a.z hz (ext' (by show b.z * a.x = a.z * b.x; grind) (by show b.z * a.y = a.z * b.y; grind) (by show b.z * a.z = a.z * b.z; grind))
    · exact key b.y a.y hy (ext' (by show b.y * a.x = a.y * b.x; grind) (by show b.y * a.y = a.y * b.y; grind) (by show b.y * a.z = a.y * b.z; grind))
  · exact key b.x a.x hx (ext' (by show b.x * a.x = a.x * b.x; grind) (by show b.x * a.y = a.x * b.y; grind) (by show b.x * a.z = a.x * b.z; grind))
theorem cr_ne {a b : V3} (ha : a ≠ o3) (hb : b ≠ o3) (na : nm a = a) (nb : nm b = b) (h : a ≠ b) : cr a b ≠ o3 := fun e => h (by rw [← na, ← nb, par ha hb e])
theorem dt_comm (a b : V3) : dt a b = dt b a := by unfold dt; grind
theorem dt_sm (k : Int) (a b : V3) : dt a (sm k b) = k * dt a b := by unfold dt sm; grind
theorem sm_dt (k : Int) (a b : V3) : dt (sm k a) b = k * dt a b := by unfold dt sm; grind
theorem cr_sm (k : Int) (a b : V3) : cr a (sm k b) = sm k (cr a b) := by unfold cr sm; ext <;> dsimp only <;> grind
theorem sm_cr (k : Int) (a b : V3) : cr (sm k a) b = sm k (cr a b) := by unfold cr sm; ext <;> dsimp only <;> grind
theorem sm_sm (k l : Int) (a : V3) : sm k (sm l a) = sm (k * l) a := by unfold sm; ext <;> dsimp only <;> grind
theorem dt_nm {a b : V3} (h : b ≠ o3) : dt a (nm b) = 0 ↔ dt a b = 0 := by
  obtain ⟨g, hg, e⟩ := nm_ex h
  conv => rhs; rw [e, dt_sm]
  rw [Int.mul_eq_zero]
  simp [hg]
theorem nm_dt {a b : V3} (h : b ≠ o3) : dt (nm b) a = 0 ↔ dt b a = 0 := by rw [dt_comm, dt_nm h, dt_comm]
theorem dt_cr1 (a b : V3) : dt (cr a b) a = 0 := by unfold dt cr; grind
theorem dt_cr2 (a b : V3) : dt (cr a b) b = 0 := by unfold dt cr; grind
theorem dt_cyc (a b c : V3) : dt (cr b c) a = dt (cr a b) c := by unfold dt cr; grind
theorem dt_swap (a b c : V3) : dt (cr b a) c = -dt (cr a b) c := by unfold dt cr; grind
theorem cr_swap (a b : V3) : cr b a = sm (-1) (cr a b) := by unfold cr sm; ext <;> dsimp only <;> grind
theorem cr_self (a : V3) : cr a a = o3 := by unfold cr o3; ext <;> dsimp only <;> grind
theorem dt_o3 (a : V3) : dt a o3 = 0 := by unfold dt o3; simp
theorem o3_dt (a : V3) : dt o3 a = 0 := by unfold dt o3; simp
theorem o3_cr (a : V3) : cr o3 a = o3 := by unfold cr o3; simp
theorem cr_o3 (a : V3) : cr a o3 = o3 := by unfold cr o3; simp
theorem cr_dt0 {a b c : V3} (h : dt (cr a b) c ≠ 0) : cr a b ≠ o3 := fun e => h (by rw [e, o3_dt])
theorem ne_of_cr {a b : V3} (h : cr a b ≠ o3) : a ≠ b := fun e => h (by rw [e, cr_self])
/-- the join of what is divided -/
theorem nm_cr {a b : V3} (ha : a ≠ o3) (hb : b ≠ o3) (h : cr a b ≠ o3) : cr (nm a) (nm b) ≠ o3 ∧ nm (cr (nm a) (nm b)) = nm (cr a b) := by
  obtain ⟨g, g0, e1⟩ := nm_ex ha
  obtain ⟨k, k0, e2⟩ := nm_ex hb
  have e : cr a b = sm (g * k) (cr (nm a) (nm b)) := by
    conv => lhs; rw [e1, e2, sm_cr, cr_sm, sm_sm]
  have n : cr (nm a) (nm b) ≠ o3 := fun z => h (by rw [e, z]; unfold sm o3; simp)
  refine ⟨n, ?_⟩
  rw [e, nm_sm (Int.mul_ne_zero g0 k0) n]
theorem cr_cr (a b c : V3) : cr (cr a b) (cr a c) = sm (dt (cr a b) c) a := by unfold dt cr sm; ext <;> dsimp only <;> grind
theorem BV.mono {n m : Nat} {a : V3} (h : BV n a) (l : n ≤ m) : BV m a := ⟨h.1.mono l, h.2.1.mono l, h.2.2.mono l⟩
theorem BV.nm {n : Nat} {a : V3} (h : BV n a) : BV n (nm a) := ⟨h.1.fdiv _, h.2.1.fdiv _, h.2.2.fdiv _⟩
theorem BV.li {n : Nat} {a : V3} (h : BV n a) : ∀ x ∈ a.li, B n x := fun x hx => by
  unfold V3.li at hx
  simp only [List.mem_cons, List.not_mem_nil, or_false] at hx
  rcases hx with rfl | rfl | rfl
  · exact h.1
  · exact h.2.1
  · exact h.2.2
theorem BV.cr {n m : Nat} {a b : V3} (h : BV n a) (k : BV m b) : BV (n + m + 1) (cr a b) := by
  refine ⟨?_, ?_, ?_⟩
  · apply B.mono (B.sub (B.mul h.2.1 k.2.2) (B.mul h.2.2 k.2.1)); omega
  · apply B.mono (B.sub (B.mul h.2.2 k.1) (B.mul h.1 k.2.2)); omega
  · apply B.mono (B.sub (B.mul h.1 k.2.1) (B.mul h.2.1 k.1)); omega
theorem BV.dt {n m : Nat} {a b : V3} (h : BV n a) (k : BV m b) : B (n + m + 2) (dt a b) := by
  apply B.mono (B.add (B.add (B.mul h.1 k.1) (B.mul h.2.1 k.2.1)) (B.mul h.2.2 k.2.2)); omega
theorem tr_mk (x y z : Int) : tr ⟨x, y, z⟩ = .tup [.int x, .int y, .int z] := rfl
theorem idx0 (a : V3) : idxD (tr a) (.int 0) = some (.int a.x) := rfl
theorem idx1 (a : V3) : idxD (tr a) (.int 1) = some (.int a.y) := rfl
theorem idx2 (a : V3) : idxD (tr a) (.int 2) = some (.int a.z) := rfl
theorem shp_tr {n : Nat} {q : V3} : shp (n + 1) (tr q) = true := by
  unfold tr
  rw [shp_t, shps_c, shps_c, shps_c, shps_n, shp_i, shp_i, shp_i]
  rfl
theorem eqs_tr {p q : V3} : eqs [.int p.x, .int p.y, .int p.z] [.int q.x, .int q.y, .int q.z] = decide (p = q) := by
  rw [eqs_cc, eqs_cc, eqs_cc, eqs_nn, eq1_ii, eq1_ii, eq1_ii, Bool.and_true, ← Bool.decide_and, ← Bool.decide_and]
  exact decide_eq_decide.mpr ⟨fun h => ext' h.1 h.2.1 h.2.2, fun h => by subst h; exact ⟨rfl, rfl, rfl⟩⟩
theorem cop_eq_tr {p q : V3} : COp.fn .eq (tr p) (tr q) = some (.bl (decide (p = q))) := by
  have h := shp_tr (n := 63) (q := p)
  have h' := shp_tr (n := 63) (q := q)
  unfold tr at *
  rw [cop_eq_tt h h', eqs_tr]
theorem cop_ne_tr {p q : V3} : COp.fn .ne (tr p) (tr q) = some (.bl (!decide (p = q))) := by
  have h := shp_tr (n := 63) (q := p)
  have h' := shp_tr (n := 63) (q := q)
  unfold tr at *
  rw [cop_ne_tt h h', eqs_tr]
end V3
/-! ### loops and comprehensions over numbers -/
theorem forF_fold {σ : Type} {ws : List Nat} {g : D → En → Option En} {b : SDen} (Φ : σ → En) (st : σ → Int → σ) : ∀ (xs : List Int) (s : σ), (∀ s, ∀ x ∈ xs, ∃ δ1, g (.int x) (Φ s) = some δ1 ∧ finK ws (b δ1) = some (Φ (st s x))) → forF ws g b (xs.map D.int) (Φ s) = .nx (Φ (xs.foldl st s))
  | [], _, _ => rfl
  | x :: xs, s, h => by
    obtain ⟨δ1, e1, e2⟩ := h s x List.mem_cons_self
    have ih := forF_fold (ws := ws) (g := g) (b := b) Φ st xs (st s x) fun s x hx => h s x (List.mem_cons_of_mem _ hx)
    rw [List.map_cons, forF_c, e1, fK_s, List.foldl_cons]
    cases eb : b δ1 with
    | nx δ2 => rw [eb] at e2; rw [loopK_nx, Option.some.inj e2]; exact ih
    | ct δ2 => rw [eb] at e2; rw [loopK_ct, Option.some.inj e2]; exact ih
    | _ => rw [eb] at e2; cases e2
theorem compF_mapI {δ : En} {g : D → En → Option En} {f : Den} {vs : List Nat} {h : Int → D} : ∀ {xs : List Int}, (∀ x ∈ xs, ∃ δ1, g (.int x) δ = some δ1 ∧ ∃ δ3, f δ1 = .ok (h x) δ3 ∧ wipeD δ3 vs = δ) → compF g none f vs (xs.map D.int) δ = some (xs.map h, δ)
  | [], _ => rfl
  | x :: xs, H => by
    obtain ⟨δ1, e1, δ3, e2, e3⟩ := H x List.mem_cons_self
    rw [List.map_cons, compF_0, e1, cS_s, e2, cE_ok, e3, compF_mapI fun d hd => H d (List.mem_cons_of_mem _ hd)]
    rfl
theorem compF_filI {δ : En} {g : D → En → Option En} {c f : Den} {vs : List Nat} {p : Int → Bool} {h : Int → D} : ∀ {xs : List Int}, (∀ x ∈ xs, ∃ δ1, g (.int x) δ = some δ1 ∧ ∃ δ2, c δ1 = .ok (.bl (p x)) δ2 ∧ wipeD δ2 vs = δ ∧ ∃ δ3, f δ2 = .ok (h x) δ3 ∧ wipeD δ3 vs = δ) → compF g (some c) f vs (xs.map D.int) δ = some ((xs.filter p).map h, δ)
  | [], _ => rfl
  | x :: xs, H => by
    obtain ⟨δ1, e1, δ2, e2, h2, δ3, e3, e4⟩ := H x List.mem_cons_self
    have r := compF_filI (xs := xs) fun d hd => H d (List.mem_cons_of_mem _ hd)
    rw [List.map_cons, compF_1, e1, cT_s, e2, cB_ok]
    cases hp : p x with
    | true =>
      rw [if_pos rfl, e3, cE_ok, e4, r, List.filter_cons_of_pos hp]
      rfl
    | false => rw [if_neg (by simp), h2, r, List.filter_cons_of_neg (by simp [hp])]
end Z

set_option maxHeartbeats 2000000
namespace My
open PySem PySem.Spec PyProof.Rows L2 Z
local macro_rules
  | `(tactic| simp_arith [$xs,*]) => `(tactic| simp -implicitDefEqProofs (disch := (first | assumption | decide | (refine divOk_B ?_ ?_ <;> first | assumption | omega) | (simp only [shps_n, shps_c, shp_i, shp_b, shp_non, shp_t, shp_l, Bool.and_self, Bool.and_true]; done) | (refine mulOk_B (n := 20000) (m := 20000) ?_ ?_ (by decide) <;> (first | assumption | (apply B.mono; (repeat' (first | assumption | apply B.mul | apply B.add | apply B.sub | apply B.neg | (apply B.emod; decide) | apply B.ediv | exact B.lit _)); decide))) | (simp; done) | omega)) [bindE_ok, bindE_rz, bindA_ok, bindA_rz, consA_ok, consA_rz, bindAA_ok, bindAA_rz, bindT_ok, bindT_rz, bindS_nx, bindS_rt, bindS_bk, bindS_ct, bindS_rz, bindES_ok, bindES_rz, bindTS_ok, bindTS_rz, bindAF_ok, bindEF_ok, bindPF_ok, bindP_ok, ofO_s, ofD_ok, ofD_rz, dVar_, dVarK_va, dVarK_ow, ownD_l, dCst_, dBin_, kBin_, kBin2_, dUn_, kUn_, dArgs_n, dArgs_c, kArg_, kArg2_, dTup_, kTup_, fLst_, kLst_, dFr_, frK_ok, dBi_, kBi_, dCall_, kCall_, dAnd_, dOr_, kAnd_, kOr_, dAnds_1, dAnds_2, dOrs_1, dOrs_2, dIte_, kIte_, sSeq_, sNil_, sPass_, sBrk_, sCnt_, sRetN_, sRet_, kRet_, sExp_, kExp_, sIf_, kIf_, nxO_s, sAsg_, kAsg_, stD_, stK_no, stK_va, stK_ow, tgv, tgt, tgl, tgnt, tgnl, stNs_n, stNs_c, stT_t, stT_l, stDs_n, stDs_c, sPar_, kPar_ok, kPar_rz, sOwn_, kOwn_ok, kOwn_rz, ownK_no, ownK_va, ownK_ow, sOwnC_, sRetC_, cCall_, kCallC_, bindAC_ok, bindAC_rz, ofDC_ok, ofDC_ow, ofDC_rz, setCK_e, setCK_f, setCK_r, setC_no, setC_va, setC_ow, retCK_e, retCK_f, retCK_r, fListB_, listBK_va, listBK_vt, listBK_ow, isD_l, sNst_, nstS_no, nstS_va, nstK_l, nstF_n, nstF_c, nstH_s, nstG_s, apsF_n, apsF_c, apsK_ok, apsJ_s, sAug_, augS_va, augK_i, loopK_nx, loopK_ct, loopK_bk, loopK_rt, loopK_rz, fgt_n, fgt_c, fgK_no, fgK_va, fgK_ow, iSeq_, seqK_l, seqK_t, iRng_, rngK_1, rngK_2, peek_, peekK_va, peekK_ow, dCmpB_, cmpBK_s, kCmpB_, dIxO_, kIxO_, ixKK_va, ixKK_ow, dLenO_, dInd_, indK_l, kInd_, lenK_s, sExt2_, extS_ow, extS_pi, extR_ok, extR_rz, extKK_ow, extKK_pi, sApp_, appS_ow, kApp_, appK_ow, sSub_, kSub_, kSub2_, dPart_n, dPart_s, partK_i, dCut_, kCut_, kCut2_, kCut3_, slD_l, fCut_, kFC_, kFC1_, kFC2_, kFC3_l, fStp_, kSt1_, kSt2_, kSt3_, kSt4_l, dStp_, kDs_, kDs2_, kDs3_, kDs4_, addD_i, subD_i, mulD_i, fdivD_p, modD_p, powD_i, negD_i, notD_b, cop_lt, cop_le, cop_gt, cop_ge, cop_eq_b, cop_ne_b, cop_eq_i, cop_ne_i, abs_i, max_i, min_i, len_l, len_t, tup_l, tup_t, int_i, idx_l, idx_t, atI_0, atI_1, atI_2, atI_3, atI_4, atI_5, atI_6, atI_7, atI_8, atI_9, atI_m1, endD_rt, endD_nx, endD_rz, cM_s, cE_ok, cS_s, cB_ok, cT_s, compF_n, compF_0, compF_1, kCompR_s, fComp_, fCompB_, cmpBKK_ow, cmpBKK_va, iOk_, ownB_ok, ownBK_no, kComp_if, wipeD_n, wipeD_c, okWipe_n, okWipe_c, okS_no, okS_va, restore_n, restore_c, rsK_s, lsO_s, iLs_, lsK_ok, zipL_l, zipL_t, zipL_m, zipD_c, zipD_n, enuL_l, enuL_t, enuD_c, enuD_n, ownAt_, ownAtK_ow, ownAtK_pi, setOwn_, soK_ow, soK_pi, dCallP_, fCallP_, cPK_s, cPKF_s, dCallB_, cBK_s, kCB_, callBK_s, flatR_ok, flatR_ow, flatR_rz, flat_n, flat_b, flat_i, flat_s, flat_t, flats_n, flats_c, kCP_, kCPF_, callPK_s, callPKF_s, ofP_d, ofP_o, ofPF_o, dArgsP_n, dArgsP_o, dArgsP_c, kArgN_, kArgP_, fCall_, kCallF_, ofDF_ow, ofD_ow, sRetF_, retFK_ok, sRetO_, retOK_ow, bindS_ro, loopK_ro, endD_ro, endP_rt, endP_nx, endP_ro, epK_pi, epR_pi, fAdd_, kFA_, kFA2_, catK_l, fList_, kLs_, listK_l, listK_t, addD_ll, addD_tt, peekK_pi, ixKK_pi, appS_pi, appK_pi, subO_pi_, subO_ow_, sjO_s, ixN_nn, isi_int_int, isi_int_bl, isi_int_non, isi_int_str, isi_int_tup, isi_int_lst, isi_int_dic, isi_bool_int, isi_bool_bl, isi_bool_non, isi_bool_str, isi_bool_tup, isi_bool_lst, isi_bool_dic, isi_tup_int, isi_tup_bl, isi_tup_non, isi_tup_str, isi_tup_tup, isi_tup_lst, isi_tup_dic, isi_lst_tup, isi_lst_lst, isi2_lt_l, isi2_lt_t, isi2_lt_i, isi2_lt_n, isi2_lt_b, isi2_lt_s, fRep_, repK_if, shps_n, shps_c, shp_i, shp_b, shp_non, shp_s, shp_t, shp_l, eq1_tt, eq1_ll, eq1_ii, eq1_bb, eq1_ss, eq1_nn, eq1_nt, eq1_tn, eqs_nn, eqs_nc, eqs_cn, eqs_cc, cop_eq_tt, cop_ne_tt, cop_eq_ll, cop_ne_ll, bKK_, bKR_s, is_bb, is_nn, is_in, is_tn, is_ln, is_bn, finK_nx, finK_ct, forF_n, forF_c, fK_s, sRaise_, sTryA_, tryK_nx, tryK_rt, tryK_ro, tryK_rz, sTryN_, tryNK_nx, tryNK_rt, tryNK_ro, tryNK_rz, pickH_n, pickH_c, noRz_nx, noRz_rt, setX_, setXK_va, setXK_no, catchS_nx, catchS_rt, clrK_va, dCallT_, hotL_x, kHot_, isED_x, subE_, dDic_, dCallN_, fCallN_, callNK_ok, callNK_rz, callNKF_ok, ofN_p, ofN_w, ofNF_w, dChn_, chnK0_, chnK_, chnK1_b, chnK2_, shlD_i, bitD_i, dstD_l, fDct_, fDsp_, dPrs_n, dPrs_c, dPr1_, dPr2_, sIns_, insS_l, kIns1_, kIns2_, sAugI_, kAugI_, augIK_l, augIA_s, kAug2_, augIK2_s, augD_i, sPar3_, nxO3_s, par3K_ok, dCmpR_, kCmpR_, bKQ_s, blK_b, $xs,*])
def cons : List (Str × D) := [("FAR", (.tup [(.int 1), (.int 0)])), ("BOUND", (.int 100000000000000000000))]
def cv_FAR : D := (.tup [(.int 1), (.int 0)])
def cv_BOUND : D := (.int 100000000000000000000)
def bis : List Str := ["abs", "all", "any", "bool", "enumerate", "int", "isinstance", "len", "list", "min", "range", "tuple", "zip"]
abbrev rs : List Nat := [1, 12]
abbrev qs : List Nat := []
abbrev hfns : List Fd := []
abbrev fns_0 : List Fd := []
def df_is_whole : Df := ⟨"is_whole", ["thing"], 1,
  (.cons (.ret (.and (.cons (.isi .int (.var 0)) (.cons (.not (.isi .bool (.var 0))) .nil)))) .nil)⟩
def fn_is_whole : List D → RD := runD ⟨fns_0, cons, bis, hfns, rs, qs⟩ df_is_whole
def sh_is_whole : SDen :=
  (sSeq (sRet (dAnds [(dUn (isiD (Ty.s .int)) (dVar 0)), (dUn notD (dUn (isiD (Ty.s .bool)) (dVar 0)))]))
  sNil)
theorem fn_is_whole_eq (a0 : D) : fn_is_whole [a0] = endD (sh_is_whole [.va a0]) := id rfl
abbrev fns_1 : List Fd := ⟨"is_whole", 1, none, fn_is_whole⟩ :: fns_0
def fuel_divisor : En → Nat := fun δ => match δ[1]? with | some (Sl.va (D.int b)) => b.natAbs + 1 | _ => 0
def df_divisor : Df := ⟨"divisor", ["one", "other"], 2,
  (.cons (.whl [] fuel_divisor (.cmp .ne (.var 1) (.int 0)) (.cons (.par 0 1 (.var 1) (.bin .mod (.var 0) (.var 1))) .nil)) (.cons (.ret (.bi .abs (.cons (.var 0) .nil))) .nil))⟩
def fn_divisor : List D → RD := runD ⟨fns_1, cons, bis, hfns, rs, qs⟩ df_divisor
def lc1_divisor : Den :=
  (dBin (COp.fn .ne) (dVar 1) (dCst (.int 0)))
def lb1_divisor : SDen :=
  (sSeq (sPar 0 1 [(dVar 1), (dBin modD (dVar 0) (dVar 1))])
  sNil)
def sh_divisor : SDen :=
  (sSeq (sWhl [] fuel_divisor lc1_divisor lb1_divisor)
  (sSeq (sRet (dBi absL [(dVar 0)]))
  sNil))
theorem fn_divisor_eq (a0 a1 : D) : fn_divisor [a0, a1] = endD (sh_divisor [.va a0, .va a1]) := id rfl
abbrev fns_2 : List Fd := ⟨"divisor", 2, none, fn_divisor⟩ :: fns_1
def df_value : Df := ⟨"value", ["top", "bottom", "by"], 2,
  (.cons (.ifs (.or (.cons (.not (.call 1 (.cons (.var 0) .nil))) (.cons (.not (.call 1 (.cons (.var 1) .nil))) (.cons (.and (.cons (.cmp .eq (.var 0) (.int 0)) (.cons (.cmp .eq (.var 1) (.int 0)) .nil))) .nil)))) (.cons (.raise 1) .nil) .nil) (.cons (.ifs (.cmp .eq (.var 1) (.int 0)) (.cons (.ret (.glo 0)) .nil) .nil) (.cons (.asg (.var 2) (.call 0 (.cons (.var 0) (.cons (.var 1) .nil)))) (.cons (.ifs (.cmp .lt (.var 1) (.int 0)) (.cons (.asg (.var 2) (.bin .sub (.int 0) (.var 2))) .nil) .nil) (.cons (.ret (.tup (.cons (.bin .fdiv (.var 0) (.var 2)) (.cons (.bin .fdiv (.var 1) (.var 2)) .nil)))) .nil)))))⟩
def fn_value : List D → RD := runD ⟨fns_2, cons, bis, hfns, rs, qs⟩ df_value
def sh_value : SDen :=
  (sSeq (sIf (dOrs [(dUn notD (dCall fn_is_whole [(dVar 0)])), (dUn notD (dCall fn_is_whole [(dVar 1)])), (dAnds [(dBin (COp.fn .eq) (dVar 0) (dCst (.int 0))), (dBin (COp.fn .eq) (dVar 1) (dCst (.int 0)))])])
  (sSeq (sRaise 1)
  sNil)
  sNil)
  (sSeq (sIf (dBin (COp.fn .eq) (dVar 1) (dCst (.int 0)))
  (sSeq (sRet (dCst cv_FAR))
  sNil)
  sNil)
  (sSeq (sAsg (Tg.st (.var 2)) (dCall fn_divisor [(dVar 0), (dVar 1)]))
  (sSeq (sIf (dBin (COp.fn .lt) (dVar 1) (dCst (.int 0)))
  (sSeq (sAsg (Tg.st (.var 2)) (dBin subD (dCst (.int 0)) (dVar 2)))
  sNil)
  sNil)
  (sSeq (sRet (dTup [(dBin fdivD (dVar 0) (dVar 2)), (dBin fdivD (dVar 1) (dVar 2))]))
  sNil)))))
theorem fn_value_eq (a0 a1 : D) : fn_value [a0, a1] = endD (sh_value [.va a0, .va a1, .no]) := id rfl
abbrev fns_3 : List Fd := ⟨"value", 2, none, fn_value⟩ :: fns_2
def df_under : Df := ⟨"under", ["one", "other"], 2,
  (.cons (.ret (.cmp .lt (.bin .mul (.idx (.var 0) (.int 0)) (.idx (.var 1) (.int 1))) (.bin .mul (.idx (.var 1) (.int 0)) (.idx (.var 0) (.int 1))))) .nil)⟩
def fn_under : List D → RD := runD ⟨fns_3, cons, bis, hfns, rs, qs⟩ df_under
def sh_under : SDen :=
  (sSeq (sRet (dBin (COp.fn .lt) (dBin mulD (dBin idxD (dVar 0) (dCst (.int 0))) (dBin idxD (dVar 1) (dCst (.int 1)))) (dBin mulD (dBin idxD (dVar 1) (dCst (.int 0))) (dBin idxD (dVar 0) (dCst (.int 1))))))
  sNil)
theorem fn_under_eq (a0 a1 : D) : fn_under [a0, a1] = endD (sh_under [.va a0, .va a1]) := id rfl
abbrev fns_4 : List Fd := ⟨"under", 2, none, fn_under⟩ :: fns_3
def df_is_eight : Df := ⟨"is_eight", ["thing", "number"], 1,
  (.cons (.ifs (.or (.cons (.not (.isi .tup (.var 0))) (.cons (.cmp .ne (.bi .len (.cons (.var 0) .nil)) (.int 8)) (.cons (.not (.bi .all (.cons (.fr (.comp (.call 3 (.cons (.var 1) .nil)) [1] (.var 1) (.seq (.var 0)) .no)) .nil))) .nil)))) (.cons (.ret (.bl false)) .nil) .nil) (.cons (.ret (.and (.cons (.bi .all (.cons (.fr (.comp (.cmp .lt (.bi .abs (.cons (.var 1) .nil)) (.glo 1)) [1] (.var 1) (.seq (.var 0)) .no)) .nil)) (.cons (.bi .any (.cons (.fr (.comp (.cmp .ne (.var 1) (.int 0)) [1] (.var 1) (.seq (.var 0)) .no)) .nil)) .nil)))) .nil))⟩
def fn_is_eight : List D → RD := runD ⟨fns_4, cons, bis, hfns, rs, qs⟩ df_is_eight
def ce1_is_eight : Den :=
  (dCall fn_is_whole [(dVar 1)])
def ce2_is_eight : Den :=
  (dBin (COp.fn .lt) (dBi absL [(dVar 1)]) (dCst cv_BOUND))
def ce3_is_eight : Den :=
  (dBin (COp.fn .ne) (dVar 1) (dCst (.int 0)))
def sh_is_eight : SDen :=
  (sSeq (sIf (dOrs [(dUn notD (dUn (isiD (Ty.s .tup)) (dVar 0))), (dBin (COp.fn .ne) (dBi lenL [(dVar 0)]) (dCst (.int 8))), (dUn notD (dBi allL [(dFr (fComp (iSeq (dVar 0)) (Tg.st (.var 1)) none ce1_is_eight [1]))]))])
  (sSeq (sRet (dCst (.bl false)))
  sNil)
  sNil)
  (sSeq (sRet (dAnds [(dBi allL [(dFr (fComp (iSeq (dVar 0)) (Tg.st (.var 1)) none ce2_is_eight [1]))]), (dBi anyL [(dFr (fComp (iSeq (dVar 0)) (Tg.st (.var 1)) none ce3_is_eight [1]))])]))
  sNil))
theorem fn_is_eight_eq (a0 : D) : fn_is_eight [a0] = endD (sh_is_eight [.va a0, .no]) := id rfl
abbrev fns_5 : List Fd := ⟨"is_eight", 1, none, fn_is_eight⟩ :: fns_4
def df_look_at_eight : Df := ⟨"look_at_eight", ["thing"], 1,
  (.cons (.ifs (.not (.call 0 (.cons (.var 0) .nil))) (.cons (.raise 12) .nil) .nil) .nil)⟩
def fn_look_at_eight : List D → RD := runD ⟨fns_5, cons, bis, hfns, rs, qs⟩ df_look_at_eight
def sh_look_at_eight : SDen :=
  (sSeq (sIf (dUn notD (dCall fn_is_eight [(dVar 0)]))
  (sSeq (sRaise 12)
  sNil)
  sNil)
  sNil)
theorem fn_look_at_eight_eq (a0 : D) : fn_look_at_eight [a0] = endD (sh_look_at_eight [.va a0]) := id rfl
abbrev fns_6 : List Fd := ⟨"look_at_eight", 1, none, fn_look_at_eight⟩ :: fns_5
def df_measure_of : Df := ⟨"measure_of", ["numbers", "some", "found", "k", "a", "b", "c", "d", "e", "f", "g", "h", "j"], 1,
  (.cons (.asg (.tup [4, 5, 6, 7, 8, 9, 10, 11]) (.var 0)) (.cons (.asg (.var 1) (.fr (.lst (.cons (.bin .mul (.var 4) (.var 11)) (.cons (.bin .mul (.var 5) (.var 10)) (.cons (.bin .mul (.var 6) (.var 9)) (.cons (.bin .mul (.var 7) (.var 8)) .nil))))))) (.cons (.asg (.var 2) (.bin .add (.bin .mul (.bin .mul (.bin .mul (.bin .mul (.int 4) (.var 4)) (.var 7)) (.var 9)) (.var 10)) (.bin .mul (.bin .mul (.bin .mul (.bin .mul (.int 4) (.var 5)) (.var 6)) (.var 8)) (.var 11)))) (.cons (.for [3, 12] (.var 3) (.rng1 (.int 4)) (.cons (.aug true 2 (.bin .mul (.idx (.var 1) (.var 3)) (.idx (.var 1) (.var 3)))) (.cons (.for [12] (.var 12) (.rng1 (.var 3)) (.cons (.aug false 2 (.bin .mul (.bin .mul (.int 2) (.idx (.var 1) (.var 12))) (.idx (.var 1) (.var 3)))) .nil)) .nil))) (.cons (.ret (.var 2)) .nil)))))⟩
def fn_measure_of : List D → RD := runD ⟨fns_6, cons, bis, hfns, rs, qs⟩ df_measure_of
def lb2_measure_of : SDen :=
  (sSeq (sAug 2 false (dBin mulD (dBin mulD (dCst (.int 2)) (dBin idxD (dVar 1) (dVar 12))) (dBin idxD (dVar 1) (dVar 3))))
  sNil)
def lb1_measure_of : SDen :=
  (sSeq (sAug 2 true (dBin mulD (dBin idxD (dVar 1) (dVar 3)) (dBin idxD (dVar 1) (dVar 3))))
  (sSeq (sFor [12] (iRng [(dVar 3)]) (Tg.st (.var 12)) lb2_measure_of)
  sNil))
def sh_measure_of : SDen :=
  (sSeq (sAsg (Tg.st (.tup [4, 5, 6, 7, 8, 9, 10, 11])) (dVar 0))
  (sSeq (sAsg (Tg.st (.var 1)) (dFr (fLst [(dBin mulD (dVar 4) (dVar 11)), (dBin mulD (dVar 5) (dVar 10)), (dBin mulD (dVar 6) (dVar 9)), (dBin mulD (dVar 7) (dVar 8))])))
  (sSeq (sAsg (Tg.st (.var 2)) (dBin addD (dBin mulD (dBin mulD (dBin mulD (dBin mulD (dCst (.int 4)) (dVar 4)) (dVar 7)) (dVar 9)) (dVar 10)) (dBin mulD (dBin mulD (dBin mulD (dBin mulD (dCst (.int 4)) (dVar 5)) (dVar 6)) (dVar 8)) (dVar 11))))
  (sSeq (sFor [3, 12] (iRng [(dCst (.int 4))]) (Tg.st (.var 3)) lb1_measure_of)
  (sSeq (sRet (dVar 2))
  sNil)))))
theorem fn_measure_of_eq (a0 : D) : fn_measure_of [a0] = endD (sh_measure_of [.va a0, .no, .no, .no, .no, .no, .no, .no, .no, .no, .no, .no, .no]) := id rfl
abbrev fns_7 : List Fd := ⟨"measure_of", 1, none, fn_measure_of⟩ :: fns_6
def df_measure : Df := ⟨"measure", ["eight"], 1,
  (.cons (.exp (.call 1 (.cons (.var 0) .nil))) (.cons (.ret (.call 0 (.cons (.var 0) .nil))) .nil))⟩
def fn_measure : List D → RD := runD ⟨fns_7, cons, bis, hfns, rs, qs⟩ df_measure
def sh_measure : SDen :=
  (sSeq (sExp (dCall fn_look_at_eight [(dVar 0)]))
  (sSeq (sRet (dCall fn_measure_of [(dVar 0)]))
  sNil))
theorem fn_measure_eq (a0 : D) : fn_measure [a0] = endD (sh_measure [.va a0]) := id rfl
abbrev fns_8 : List Fd := ⟨"measure", 1, none, fn_measure⟩ :: fns_7
def fuel_whole_root : En → Nat := fun _ => 1500
def fuel_whole_root_2 : En → Nat := fun δ => match δ[1]? with | some (Sl.va (D.int b)) => b.natAbs + 1 | _ => 0
def df_whole_root : Df := ⟨"whole_root", ["number", "found", "lesser"], 1,
  (.cons (.ifs (.cmp .eq (.var 0) (.int 0)) (.cons (.ret (.int 0)) .nil) .nil) (.cons (.asg (.var 1) (.int 1)) (.cons (.whl [] fuel_whole_root (.cmp .le (.bin .mul (.var 1) (.var 1)) (.var 0)) (.cons (.asg (.var 1) (.bin .mul (.int 2) (.var 1))) .nil)) (.cons (.asg (.var 2) (.bin .fdiv (.bin .add (.var 1) (.bin .fdiv (.var 0) (.var 1))) (.int 2))) (.cons (.whl [] fuel_whole_root_2 (.cmp .lt (.var 2) (.var 1)) (.cons (.asg (.var 1) (.var 2)) (.cons (.asg (.var 2) (.bin .fdiv (.bin .add (.var 1) (.bin .fdiv (.var 0) (.var 1))) (.int 2))) .nil))) (.cons (.ret (.var 1)) .nil))))))⟩
def fn_whole_root : List D → RD := runD ⟨fns_8, cons, bis, hfns, rs, qs⟩ df_whole_root
def lc1_whole_root : Den :=
  (dBin (COp.fn .le) (dBin mulD (dVar 1) (dVar 1)) (dVar 0))
def lb1_whole_root : SDen :=
  (sSeq (sAsg (Tg.st (.var 1)) (dBin mulD (dCst (.int 2)) (dVar 1)))
  sNil)
def lc2_whole_root : Den :=
  (dBin (COp.fn .lt) (dVar 2) (dVar 1))
def lb2_whole_root : SDen :=
  (sSeq (sAsg (Tg.st (.var 1)) (dVar 2))
  (sSeq (sAsg (Tg.st (.var 2)) (dBin fdivD (dBin addD (dVar 1) (dBin fdivD (dVar 0) (dVar 1))) (dCst (.int 2))))
  sNil))
def sh_whole_root : SDen :=
  (sSeq (sIf (dBin (COp.fn .eq) (dVar 0) (dCst (.int 0)))
  (sSeq (sRet (dCst (.int 0)))
  sNil)
  sNil)
  (sSeq (sAsg (Tg.st (.var 1)) (dCst (.int 1)))
  (sSeq (sWhl [] fuel_whole_root lc1_whole_root lb1_whole_root)
  (sSeq (sAsg (Tg.st (.var 2)) (dBin fdivD (dBin addD (dVar 1) (dBin fdivD (dVar 0) (dVar 1))) (dCst (.int 2))))
  (sSeq (sWhl [] fuel_whole_root_2 lc2_whole_root lb2_whole_root)
  (sSeq (sRet (dVar 1))
  sNil))))))
theorem fn_whole_root_eq (a0 : D) : fn_whole_root [a0] = endD (sh_whole_root [.va a0, .no, .no]) := id rfl
abbrev fns_9 : List Fd := ⟨"whole_root", 1, none, fn_whole_root⟩ :: fns_8
def df_sides_of : Df := ⟨"sides_of", ["numbers", "which", "step", "noughts", "ones", "place", "number"], 2,
  (.cons (.asg (.var 2) (.idx (.fr (.lst (.cons (.int 4) (.cons (.int 2) (.cons (.int 1) .nil))))) (.var 1))) (.cons (.asg (.var 3) (.fr (.comp (.var 6) [5, 6] (.tup [5, 6]) (.enum (.var 0)) (.so (.cmp .eq (.bin .mod (.bin .fdiv (.var 5) (.var 2)) (.int 2)) (.int 0)))))) (.cons (.asg (.var 4) (.fr (.comp (.var 6) [5, 6] (.tup [5, 6]) (.enum (.var 0)) (.so (.cmp .eq (.bin .mod (.bin .fdiv (.var 5) (.var 2)) (.int 2)) (.int 1)))))) (.cons (.ret (.tup (.cons (.var 3) (.cons (.var 4) .nil)))) .nil))))⟩
def fn_sides_of : List D → RD := runD ⟨fns_9, cons, bis, hfns, rs, qs⟩ df_sides_of
def ct1_sides_of : Den :=
  (dBin (COp.fn .eq) (dBin modD (dBin fdivD (dVar 5) (dVar 2)) (dCst (.int 2))) (dCst (.int 0)))
def ce1_sides_of : Den :=
  (dVar 6)
def ct2_sides_of : Den :=
  (dBin (COp.fn .eq) (dBin modD (dBin fdivD (dVar 5) (dVar 2)) (dCst (.int 2))) (dCst (.int 1)))
def ce2_sides_of : Den :=
  (dVar 6)
def sh_sides_of : SDen :=
  (sSeq (sAsg (Tg.st (.var 2)) (dBin idxD (dFr (fLst [(dCst (.int 4)), (dCst (.int 2)), (dCst (.int 1))])) (dVar 1)))
  (sSeq (sAsg (Tg.st (.var 3)) (dFr (fComp (iLs enuL [(dVar 0)]) (Tg.st (.tup [5, 6])) (some ct1_sides_of) ce1_sides_of [5, 6])))
  (sSeq (sAsg (Tg.st (.var 4)) (dFr (fComp (iLs enuL [(dVar 0)]) (Tg.st (.tup [5, 6])) (some ct2_sides_of) ce2_sides_of [5, 6])))
  (sSeq (sRet (dTup [(dVar 3), (dVar 4)]))
  sNil))))
theorem fn_sides_of_eq (a0 a1 : D) : fn_sides_of [a0, a1] = endD (sh_sides_of [.va a0, .va a1, .no, .no, .no, .no, .no]) := id rfl
abbrev fns_10 : List Fd := ⟨"sides_of", 2, none, fn_sides_of⟩ :: fns_9
def df_quadratic_of : Df := ⟨"quadratic_of", ["numbers", "which", "a", "b", "s", "t"], 2,
  (.cons (.asg (.tup [4, 5]) (.call 0 (.cons (.var 0) (.cons (.var 1) .nil)))) (.cons (.asg (.var 2) (.bin .sub (.bin .mul (.idx (.var 5) (.int 0)) (.idx (.var 5) (.int 3))) (.bin .mul (.idx (.var 5) (.int 1)) (.idx (.var 5) (.int 2))))) (.cons (.asg (.var 3) (.bin .sub (.bin .sub (.bin .add (.bin .mul (.idx (.var 4) (.int 0)) (.idx (.var 5) (.int 3))) (.bin .mul (.idx (.var 5) (.int 0)) (.idx (.var 4) (.int 3)))) (.bin .mul (.idx (.var 4) (.int 1)) (.idx (.var 5) (.int 2)))) (.bin .mul (.idx (.var 5) (.int 1)) (.idx (.var 4) (.int 2))))) (.cons (.ret (.tup (.cons (.var 2) (.cons (.var 3) (.cons (.bin .sub (.bin .mul (.idx (.var 4) (.int 0)) (.idx (.var 4) (.int 3))) (.bin .mul (.idx (.var 4) (.int 1)) (.idx (.var 4) (.int 2)))) .nil))))) .nil))))⟩
def fn_quadratic_of : List D → RD := runD ⟨fns_10, cons, bis, hfns, rs, qs⟩ df_quadratic_of
def sh_quadratic_of : SDen :=
  (sSeq (sAsg (Tg.st (.tup [4, 5])) (dCall fn_sides_of [(dVar 0), (dVar 1)]))
  (sSeq (sAsg (Tg.st (.var 2)) (dBin subD (dBin mulD (dBin idxD (dVar 5) (dCst (.int 0))) (dBin idxD (dVar 5) (dCst (.int 3)))) (dBin mulD (dBin idxD (dVar 5) (dCst (.int 1))) (dBin idxD (dVar 5) (dCst (.int 2))))))
  (sSeq (sAsg (Tg.st (.var 3)) (dBin subD (dBin subD (dBin addD (dBin mulD (dBin idxD (dVar 4) (dCst (.int 0))) (dBin idxD (dVar 5) (dCst (.int 3)))) (dBin mulD (dBin idxD (dVar 5) (dCst (.int 0))) (dBin idxD (dVar 4) (dCst (.int 3))))) (dBin mulD (dBin idxD (dVar 4) (dCst (.int 1))) (dBin idxD (dVar 5) (dCst (.int 2))))) (dBin mulD (dBin idxD (dVar 5) (dCst (.int 1))) (dBin idxD (dVar 4) (dCst (.int 2))))))
  (sSeq (sRet (dTup [(dVar 2), (dVar 3), (dBin subD (dBin mulD (dBin idxD (dVar 4) (dCst (.int 0))) (dBin idxD (dVar 4) (dCst (.int 3)))) (dBin mulD (dBin idxD (dVar 4) (dCst (.int 1))) (dBin idxD (dVar 4) (dCst (.int 2)))))]))
  sNil))))
theorem fn_quadratic_of_eq (a0 a1 : D) : fn_quadratic_of [a0, a1] = endD (sh_quadratic_of [.va a0, .va a1, .no, .no, .no, .no]) := id rfl
abbrev fns_11 : List Fd := ⟨"quadratic_of", 2, none, fn_quadratic_of⟩ :: fns_10
def df_without_square : Df := ⟨"without_square", ["b", "c"], 2,
  (.cons (.ifs (.cmp .eq (.var 0) (.int 0)) (.cons (.retF (.lst (.cons (.glo 0) .nil))) .nil) .nil) (.cons (.retF (.lst (.cons (.call 8 (.cons (.bin .sub (.int 0) (.var 1)) (.cons (.var 0) .nil))) (.cons (.glo 0) .nil)))) .nil))⟩
def fn_without_square : List D → RD := runD ⟨fns_11, cons, bis, hfns, rs, qs⟩ df_without_square
def sh_without_square : SDen :=
  (sSeq (sIf (dBin (COp.fn .eq) (dVar 0) (dCst (.int 0)))
  (sSeq (sRetF (fLst [(dCst cv_FAR)]))
  sNil)
  sNil)
  (sSeq (sRetF (fLst [(dCall fn_value [(dBin subD (dCst (.int 0)) (dVar 1)), (dVar 0)]), (dCst cv_FAR)]))
  sNil))
theorem fn_without_square_eq (a0 a1 : D) : fn_without_square [a0, a1] = endD (sh_without_square [.va a0, .va a1]) := id rfl
abbrev fns_12 : List Fd := ⟨"without_square", 2, none, fn_without_square⟩ :: fns_11
def df_roots_of : Df := ⟨"roots_of", ["numbers", "which", "left", "root", "one", "other", "a", "b", "c"], 2,
  (.cons (.asg (.tup [6, 7, 8]) (.call 1 (.cons (.var 0) (.cons (.var 1) .nil)))) (.cons (.ifs (.and (.cons (.cmp .eq (.var 6) (.int 0)) (.cons (.cmp .eq (.var 7) (.int 0)) (.cons (.cmp .eq (.var 8) (.int 0)) .nil)))) (.cons (.ret .non) .nil) .nil) (.cons (.ifs (.cmp .eq (.var 6) (.int 0)) (.cons (.retF (.call 0 (.cons (.var 7) (.cons (.var 8) .nil)))) .nil) .nil) (.cons (.asg (.var 2) (.bin .sub (.bin .mul (.var 7) (.var 7)) (.bin .mul (.bin .mul (.int 4) (.var 6)) (.var 8)))) (.cons (.ifs (.cmp .lt (.var 2) (.int 0)) (.cons (.retF (.lst .nil)) .nil) .nil) (.cons (.asg (.var 3) (.call 3 (.cons (.var 2) .nil))) (.cons (.ifs (.cmp .ne (.bin .mul (.var 3) (.var 3)) (.var 2)) (.cons (.retF (.lst .nil)) .nil) .nil) (.cons (.asg (.var 4) (.call 9 (.cons (.bin .sub (.bin .sub (.int 0) (.var 7)) (.var 3)) (.cons (.bin .mul (.int 2) (.var 6)) .nil)))) (.cons (.asg (.var 5) (.call 9 (.cons (.bin .sub (.var 3) (.var 7)) (.cons (.bin .mul (.int 2) (.var 6)) .nil)))) (.cons (.ifs (.cmp .eq (.var 4) (.var 5)) (.cons (.retF (.lst (.cons (.var 4) .nil))) .nil) .nil) (.cons (.ifs (.call 8 (.cons (.var 5) (.cons (.var 4) .nil))) (.cons (.retF (.lst (.cons (.var 5) (.cons (.var 4) .nil)))) .nil) .nil) (.cons (.retF (.lst (.cons (.var 4) (.cons (.var 5) .nil)))) .nil))))))))))))⟩
def fn_roots_of : List D → RD := runD ⟨fns_12, cons, bis, hfns, rs, qs⟩ df_roots_of
def sh_roots_of : SDen :=
  (sSeq (sAsg (Tg.st (.tup [6, 7, 8])) (dCall fn_quadratic_of [(dVar 0), (dVar 1)]))
  (sSeq (sIf (dAnds [(dBin (COp.fn .eq) (dVar 6) (dCst (.int 0))), (dBin (COp.fn .eq) (dVar 7) (dCst (.int 0))), (dBin (COp.fn .eq) (dVar 8) (dCst (.int 0)))])
  (sSeq (sRet (dCst .non))
  sNil)
  sNil)
  (sSeq (sIf (dBin (COp.fn .eq) (dVar 6) (dCst (.int 0)))
  (sSeq (sRetF (fCall fn_without_square [(dVar 7), (dVar 8)]))
  sNil)
  sNil)
  (sSeq (sAsg (Tg.st (.var 2)) (dBin subD (dBin mulD (dVar 7) (dVar 7)) (dBin mulD (dBin mulD (dCst (.int 4)) (dVar 6)) (dVar 8))))
  (sSeq (sIf (dBin (COp.fn .lt) (dVar 2) (dCst (.int 0)))
  (sSeq (sRetF (fLst []))
  sNil)
  sNil)
  (sSeq (sAsg (Tg.st (.var 3)) (dCall fn_whole_root [(dVar 2)]))
  (sSeq (sIf (dBin (COp.fn .ne) (dBin mulD (dVar 3) (dVar 3)) (dVar 2))
  (sSeq (sRetF (fLst []))
  sNil)
  sNil)
  (sSeq (sAsg (Tg.st (.var 4)) (dCall fn_value [(dBin subD (dBin subD (dCst (.int 0)) (dVar 7)) (dVar 3)), (dBin mulD (dCst (.int 2)) (dVar 6))]))
  (sSeq (sAsg (Tg.st (.var 5)) (dCall fn_value [(dBin subD (dVar 3) (dVar 7)), (dBin mulD (dCst (.int 2)) (dVar 6))]))
  (sSeq (sIf (dBin (COp.fn .eq) (dVar 4) (dVar 5))
  (sSeq (sRetF (fLst [(dVar 4)]))
  sNil)
  sNil)
  (sSeq (sIf (dCall fn_under [(dVar 5), (dVar 4)])
  (sSeq (sRetF (fLst [(dVar 5), (dVar 4)]))
  sNil)
  sNil)
  (sSeq (sRetF (fLst [(dVar 4), (dVar 5)]))
  sNil))))))))))))
theorem fn_roots_of_eq (a0 a1 : D) : fn_roots_of [a0, a1] = endD (sh_roots_of [.va a0, .va a1, .no, .no, .no, .no, .no, .no, .no]) := id rfl
abbrev fns_13 : List Fd := ⟨"roots_of", 2, none, fn_roots_of⟩ :: fns_12
def df_roots : Df := ⟨"roots", ["eight", "which"], 2,
  (.cons (.exp (.call 7 (.cons (.var 0) .nil))) (.cons (.retC 0 (.cons (.var 0) (.cons (.var 1) .nil))) .nil))⟩
def fn_roots : List D → RD := runD ⟨fns_13, cons, bis, hfns, rs, qs⟩ df_roots
def sh_roots : SDen :=
  (sSeq (sExp (dCall fn_look_at_eight [(dVar 0)]))
  (sSeq (sRetC (cCall fn_roots_of [(dVar 0), (dVar 1)]))
  sNil))
theorem fn_roots_eq (a0 a1 : D) : fn_roots [a0, a1] = endD (sh_roots [.va a0, .va a1]) := id rfl
abbrev fns_14 : List Fd := ⟨"roots", 2, none, fn_roots⟩ :: fns_13
def df__law_cell_at : Df := ⟨"_law_cell_at", ["_law_script", "_law_k"], 2,
  (.cons (.ifs (.cmp .lt (.var 1) (.bi .len (.cons (.var 0) .nil))) (.cons (.ret (.idx (.var 0) (.var 1))) .nil) .nil) (.cons (.ret (.int 0)) .nil))⟩
def fn__law_cell_at : List D → RD := runD ⟨fns_14, cons, bis, hfns, rs, qs⟩ df__law_cell_at
def sh__law_cell_at : SDen :=
  (sSeq (sIf (dBin (COp.fn .lt) (dVar 1) (dBi lenL [(dVar 0)]))
  (sSeq (sRet (dBin idxD (dVar 0) (dVar 1)))
  sNil)
  sNil)
  (sSeq (sRet (dCst (.int 0)))
  sNil))
theorem fn__law_cell_at_eq (a0 a1 : D) : fn__law_cell_at [a0, a1] = endD (sh__law_cell_at [.va a0, .va a1]) := id rfl
abbrev fns_15 : List Fd := ⟨"_law_cell_at", 2, none, fn__law_cell_at⟩ :: fns_14
def df__law_whole : Df := ⟨"_law_whole", ["_law_found"], 1,
  (.cons (.ret (.and (.cons (.isi .int (.var 0)) (.cons (.not (.isi .bool (.var 0))) .nil)))) .nil)⟩
def fn__law_whole : List D → RD := runD ⟨fns_15, cons, bis, hfns, rs, qs⟩ df__law_whole
def sh__law_whole : SDen :=
  (sSeq (sRet (dAnds [(dUn (isiD (Ty.s .int)) (dVar 0)), (dUn notD (dUn (isiD (Ty.s .bool)) (dVar 0)))]))
  sNil)
theorem fn__law_whole_eq (a0 : D) : fn__law_whole [a0] = endD (sh__law_whole [.va a0]) := id rfl
abbrev fns_16 : List Fd := ⟨"_law_whole", 1, none, fn__law_whole⟩ :: fns_15
def df__law_drawn : Df := ⟨"_law_drawn", ["_law_cell", "_law_k", "_law_one", "_law_found", "_law_turn"], 2,
  (.cons (.ifs (.cmp .ge (.var 0) (.bin .pow (.int 10) (.int 18))) (.cons (.retF (.lst (.cons (.var 0) .nil))) .nil) .nil) (.cons (.asg (.var 2) (.bin .mod (.bin .mul (.bin .add (.bin .add (.bin .mod (.var 0) (.int 1000000007)) (.bin .mul (.int 7919) (.var 1))) (.int 1)) (.int 48271)) (.int 2147483647))) (.cons (.asg (.var 3) (.int 0)) (.cons (.for [4] (.var 4) (.rng1 (.int 28)) (.cons (.asg (.var 2) (.bin .mod (.bin .add (.bin .add (.bin .add (.bin .mul (.var 2) (.var 2)) (.bin .mul (.int 39373) (.var 2))) (.var 4)) (.var 1)) (.int 2147483629))) (.cons (.asg (.var 3) (.bin .add (.bin .mul (.var 3) (.int 2147483629)) (.var 2))) .nil))) (.cons (.retF (.lst (.cons (.var 3) .nil))) .nil)))))⟩
def fn__law_drawn : List D → RD := runD ⟨fns_16, cons, bis, hfns, rs, qs⟩ df__law_drawn
def lb1__law_drawn : SDen :=
  (sSeq (sAsg (Tg.st (.var 2)) (dBin modD (dBin addD (dBin addD (dBin addD (dBin mulD (dVar 2) (dVar 2)) (dBin mulD (dCst (.int 39373)) (dVar 2))) (dVar 4)) (dVar 1)) (dCst (.int 2147483629))))
  (sSeq (sAsg (Tg.st (.var 3)) (dBin addD (dBin mulD (dVar 3) (dCst (.int 2147483629))) (dVar 2)))
  sNil))
def sh__law_drawn : SDen :=
  (sSeq (sIf (dBin (COp.fn .ge) (dVar 0) (dBin powD (dCst (.int 10)) (dCst (.int 18))))
  (sSeq (sRetF (fLst [(dVar 0)]))
  sNil)
  sNil)
  (sSeq (sAsg (Tg.st (.var 2)) (dBin modD (dBin mulD (dBin addD (dBin addD (dBin modD (dVar 0) (dCst (.int 1000000007))) (dBin mulD (dCst (.int 7919)) (dVar 1))) (dCst (.int 1))) (dCst (.int 48271))) (dCst (.int 2147483647))))
  (sSeq (sAsg (Tg.st (.var 3)) (dCst (.int 0)))
  (sSeq (sFor [4] (iRng [(dCst (.int 28))]) (Tg.st (.var 4)) lb1__law_drawn)
  (sSeq (sRetF (fLst [(dVar 3)]))
  sNil)))))
theorem fn__law_drawn_eq (a0 a1 : D) : fn__law_drawn [a0, a1] = endD (sh__law_drawn [.va a0, .va a1, .no, .no, .no]) := id rfl
abbrev fns_17 : List Fd := ⟨"_law_drawn", 2, none, fn__law_drawn⟩ :: fns_16
def df__law_take : Df := ⟨"_law_take", ["_law_drawn_here", "_law_many_here", "_law_found"], 2,
  (.cons (.asg (.var 2) (.bin .mod (.ixO 0 (.int 0)) (.var 1))) (.cons (.sub 0 (.int 0) (.bin .fdiv (.ixO 0 (.int 0)) (.var 1))) (.cons (.ret (.var 2)) .nil)))⟩
def fn__law_take : List D → RD := runP ⟨fns_17, cons, bis, hfns, rs, qs⟩ df__law_take 0
def sh__law_take : SDen :=
  (sSeq (sAsg (Tg.st (.var 2)) (dBin modD (dIxO 0 (dCst (.int 0))) (dVar 1)))
  (sSeq (sSub 0 (dCst (.int 0)) (dBin fdivD (dIxO 0 (dCst (.int 0))) (dVar 1)))
  (sSeq (sRet (dVar 2))
  sNil)))
theorem fn__law_take_eq (l : List D) (a1 : D) : fn__law_take [.lst l, a1] = endP 0 (sh__law_take [.pi (.lst l), .va a1, .no]) := id rfl
abbrev fns_18 : List Fd := ⟨"_law_take", 2, some 0, fn__law_take⟩ :: fns_17
def df__law_pair : Df := ⟨"_law_pair", ["_law_drawn_here", "_law_most", "_law_pair_here"], 2,
  (.cons (.asg (.var 2) (.tup (.cons (.bin .sub (.callP 0 0 (.own (.cons (.bin .add (.bin .mul (.int 2) (.var 1)) (.int 1)) .nil))) (.var 1)) (.cons (.bin .sub (.callP 0 0 (.own (.cons (.bin .add (.bin .mul (.int 2) (.var 1)) (.int 1)) .nil))) (.var 1)) .nil)))) (.cons (.ret (.ite (.cmp .eq (.var 2) (.tup (.cons (.int 0) (.cons (.int 0) .nil)))) (.tup (.cons (.int 1) (.cons (.int 0) .nil))) (.var 2))) .nil))⟩
def fn__law_pair : List D → RD := runP ⟨fns_18, cons, bis, hfns, rs, qs⟩ df__law_pair 0
def sh__law_pair : SDen :=
  (sSeq (sAsg (Tg.st (.var 2)) (dTup [(dBin subD (dCallP fn__law_take 0 0 [none, some (dBin addD (dBin mulD (dCst (.int 2)) (dVar 1)) (dCst (.int 1)))]) (dVar 1)), (dBin subD (dCallP fn__law_take 0 0 [none, some (dBin addD (dBin mulD (dCst (.int 2)) (dVar 1)) (dCst (.int 1)))]) (dVar 1))]))
  (sSeq (sRet (dIte (dBin (COp.fn .eq) (dVar 2) (dTup [(dCst (.int 0)), (dCst (.int 0))])) (dTup [(dCst (.int 1)), (dCst (.int 0))]) (dVar 2)))
  sNil))
theorem fn__law_pair_eq (l : List D) (a1 : D) : fn__law_pair [.lst l, a1] = endP 0 (sh__law_pair [.pi (.lst l), .va a1, .no]) := id rfl
abbrev fns_19 : List Fd := ⟨"_law_pair", 2, some 0, fn__law_pair⟩ :: fns_18
def df__law_number : Df := ⟨"_law_number", ["_law_drawn_here", "_law_most"], 2,
  (.cons (.asg (.var 1) (.idx (.fr (.lst (.cons (.int 3) (.cons (.int 3) (.cons (.int 9) (.cons (.int 9) (.cons (.int 100) (.cons (.int 1000) (.cons (.bin .sub (.bin .pow (.int 10) (.int 9)) (.int 1)) (.cons (.var 1) .nil)))))))))) (.callP 1 0 (.own (.cons (.int 8) .nil))))) (.cons (.ret (.bin .sub (.callP 1 0 (.own (.cons (.bin .add (.bin .mul (.int 2) (.var 1)) (.int 1)) .nil))) (.var 1))) .nil))⟩
def fn__law_number : List D → RD := runP ⟨fns_19, cons, bis, hfns, rs, qs⟩ df__law_number 0
def sh__law_number : SDen :=
  (sSeq (sAsg (Tg.st (.var 1)) (dBin idxD (dFr (fLst [(dCst (.int 3)), (dCst (.int 3)), (dCst (.int 9)), (dCst (.int 9)), (dCst (.int 100)), (dCst (.int 1000)), (dBin subD (dBin powD (dCst (.int 10)) (dCst (.int 9))) (dCst (.int 1))), (dVar 1)])) (dCallP fn__law_take 0 0 [none, some (dCst (.int 8))])))
  (sSeq (sRet (dBin subD (dCallP fn__law_take 0 0 [none, some (dBin addD (dBin mulD (dCst (.int 2)) (dVar 1)) (dCst (.int 1)))]) (dVar 1)))
  sNil))
theorem fn__law_number_eq (l : List D) (a1 : D) : fn__law_number [.lst l, a1] = endP 0 (sh__law_number [.pi (.lst l), .va a1]) := id rfl
abbrev fns_20 : List Fd := ⟨"_law_number", 2, some 0, fn__law_number⟩ :: fns_19
def df__law_products : Df := ⟨"_law_products", ["_law_pairs", "_law_a", "_law_b", "_law_c", "_law_n"], 1,
  (.cons (.asg (.tup [1, 2, 3]) (.var 0)) (.cons (.retF (.comp (.bin .mul (.bin .mul (.idx (.var 1) (.bin .fdiv (.var 4) (.int 4))) (.idx (.var 2) (.bin .mod (.bin .fdiv (.var 4) (.int 2)) (.int 2)))) (.idx (.var 3) (.bin .mod (.var 4) (.int 2)))) [4] (.var 4) (.rng1 (.int 8)) .no)) .nil))⟩
def fn__law_products : List D → RD := runD ⟨fns_20, cons, bis, hfns, rs, qs⟩ df__law_products
def ce1__law_products : Den :=
  (dBin mulD (dBin mulD (dBin idxD (dVar 1) (dBin fdivD (dVar 4) (dCst (.int 4)))) (dBin idxD (dVar 2) (dBin modD (dBin fdivD (dVar 4) (dCst (.int 2))) (dCst (.int 2))))) (dBin idxD (dVar 3) (dBin modD (dVar 4) (dCst (.int 2)))))
def sh__law_products : SDen :=
  (sSeq (sAsg (Tg.st (.tup [1, 2, 3])) (dVar 0))
  (sSeq (sRetF (fComp (iRng [(dCst (.int 8))]) (Tg.st (.var 4)) none ce1__law_products [4]))
  sNil))
theorem fn__law_products_eq (a0 : D) : fn__law_products [a0] = endD (sh__law_products [.va a0, .no, .no, .no, .no]) := id rfl
abbrev fns_21 : List Fd := ⟨"_law_products", 1, none, fn__law_products⟩ :: fns_20
def df__law_added : Df := ⟨"_law_added", ["_law_some", "_law_more", "_law_one", "_law_other"], 2,
  (.cons (.retF (.comp (.bin .add (.var 2) (.var 3)) [2, 3] (.tup [2, 3]) (.zip (.var 0) (.var 1)) .no)) .nil)⟩
def fn__law_added : List D → RD := runD ⟨fns_21, cons, bis, hfns, rs, qs⟩ df__law_added
def ce1__law_added : Den :=
  (dBin addD (dVar 2) (dVar 3))
def sh__law_added : SDen :=
  (sSeq (sRetF (fComp (iLs zipL [(dVar 0), (dVar 1)]) (Tg.st (.tup [2, 3])) none ce1__law_added [2, 3]))
  sNil)
theorem fn__law_added_eq (a0 a1 : D) : fn__law_added [a0, a1] = endD (sh__law_added [.va a0, .va a1, .no, .no]) := id rfl
abbrev fns_22 : List Fd := ⟨"_law_added", 2, none, fn__law_added⟩ :: fns_21
def df__law_parted_by : Df := ⟨"_law_parted_by", ["_law_drawn_here", "_law_most", "_law_which", "_law_step", "_law_four", "_law_pair_here", "_law_places", "_law_found", "_law_number_here", "_law_n"], 3,
  (.cons (.asg (.var 3) (.idx (.fr (.lst (.cons (.int 4) (.cons (.int 2) (.cons (.int 1) .nil))))) (.var 2))) (.cons (.asg (.var 4) (.fr (.comp (.bin .sub (.callP 4 0 (.own (.cons (.bin .add (.bin .mul (.int 2) (.var 1)) (.int 1)) .nil))) (.var 1)) [9] (.var 9) (.rng1 (.int 4)) .no))) (.cons (.asg (.var 5) (.callP 3 0 (.own (.cons (.var 1) .nil)))) (.cons (.asg (.var 6) (.fr (.comp (.var 9) [9] (.var 9) (.rng1 (.int 8)) (.so (.cmp .eq (.bin .mod (.bin .fdiv (.var 9) (.var 3)) (.int 2)) (.int 0)))))) (.cons (.own 7 (.rep (.lst (.cons (.int 0) .nil)) 8)) (.cons (.for [8, 9] (.tup [8, 9]) (.zip (.var 4) (.var 6)) (.cons (.sub 7 (.var 9) (.bin .mul (.idx (.var 5) (.int 0)) (.var 8))) (.cons (.sub 7 (.bin .add (.var 9) (.var 3)) (.bin .mul (.idx (.var 5) (.int 1)) (.var 8))) .nil))) (.cons (.retO 7) .nil)))))))⟩
def fn__law_parted_by : List D → RD := runP ⟨fns_22, cons, bis, hfns, rs, qs⟩ df__law_parted_by 0
def ce1__law_parted_by : Den :=
  (dBin subD (dCallP fn__law_take 0 0 [none, some (dBin addD (dBin mulD (dCst (.int 2)) (dVar 1)) (dCst (.int 1)))]) (dVar 1))
def ct1__law_parted_by : Den :=
  (dBin (COp.fn .eq) (dBin modD (dBin fdivD (dVar 9) (dVar 3)) (dCst (.int 2))) (dCst (.int 0)))
def ce2__law_parted_by : Den :=
  (dVar 9)
def lb1__law_parted_by : SDen :=
  (sSeq (sSub 7 (dVar 9) (dBin mulD (dBin idxD (dVar 5) (dCst (.int 0))) (dVar 8)))
  (sSeq (sSub 7 (dBin addD (dVar 9) (dVar 3)) (dBin mulD (dBin idxD (dVar 5) (dCst (.int 1))) (dVar 8)))
  sNil))
def sh__law_parted_by : SDen :=
  (sSeq (sAsg (Tg.st (.var 3)) (dBin idxD (dFr (fLst [(dCst (.int 4)), (dCst (.int 2)), (dCst (.int 1))])) (dVar 2)))
  (sSeq (sAsg (Tg.st (.var 4)) (dFr (fComp (iRng [(dCst (.int 4))]) (Tg.st (.var 9)) none ce1__law_parted_by [9])))
  (sSeq (sAsg (Tg.st (.var 5)) (dCallP fn__law_pair 0 0 [none, some (dVar 1)]))
  (sSeq (sAsg (Tg.st (.var 6)) (dFr (fComp (iRng [(dCst (.int 8))]) (Tg.st (.var 9)) (some ct1__law_parted_by) ce2__law_parted_by [9])))
  (sSeq (sOwn 7 (fRep (fLst [(dCst (.int 0))]) 8))
  (sSeq (sFor [8, 9] (iLs zipL [(dVar 4), (dVar 6)]) (Tg.st (.tup [8, 9])) lb1__law_parted_by)
  (sSeq (sRetO 7)
  sNil)))))))
theorem fn__law_parted_by_eq (l : List D) (a1 a2 : D) : fn__law_parted_by [.lst l, a1, a2] = endP 0 (sh__law_parted_by [.pi (.lst l), .va a1, .va a2, .no, .no, .no, .no, .no, .no, .no]) := id rfl
abbrev fns_23 : List Fd := ⟨"_law_parted_by", 3, some 0, fn__law_parted_by⟩ :: fns_22
def df__law_pencil : Df := ⟨"_law_pencil", ["_law_drawn_here", "_law_most", "_law_p", "_law_q", "_law_r", "_law_s", "_law_a", "_law_b", "_law_c", "_law_d", "_law_n"], 2,
  (.cons (.asg (.tup [2, 3, 4, 5]) (.fr (.comp (.bin .sub (.callP 5 0 (.own (.cons (.bin .add (.bin .mul (.int 2) (.var 1)) (.int 1)) .nil))) (.var 1)) [10] (.var 10) (.rng1 (.int 4)) .no))) (.cons (.asg (.tup [6, 7, 8, 9]) (.fr (.comp (.bin .sub (.callP 5 0 (.own (.cons (.bin .add (.bin .mul (.int 2) (.var 1)) (.int 1)) .nil))) (.var 1)) [10] (.var 10) (.rng1 (.int 4)) .no))) (.cons (.retF (.lst (.cons (.var 2) (.cons (.var 3) (.cons (.var 4) (.cons (.var 5) (.cons (.bin .add (.bin .mul (.var 2) (.var 6)) (.bin .mul (.var 3) (.var 8))) (.cons (.bin .add (.bin .mul (.var 2) (.var 7)) (.bin .mul (.var 3) (.var 9))) (.cons (.bin .add (.bin .mul (.var 4) (.var 6)) (.bin .mul (.var 5) (.var 8))) (.cons (.bin .add (.bin .mul (.var 4) (.var 7)) (.bin .mul (.var 5) (.var 9))) .nil)))))))))) .nil)))⟩
def fn__law_pencil : List D → RD := runP ⟨fns_23, cons, bis, hfns, rs, qs⟩ df__law_pencil 0
def ce1__law_pencil : Den :=
  (dBin subD (dCallP fn__law_take 0 0 [none, some (dBin addD (dBin mulD (dCst (.int 2)) (dVar 1)) (dCst (.int 1)))]) (dVar 1))
def ce2__law_pencil : Den :=
  (dBin subD (dCallP fn__law_take 0 0 [none, some (dBin addD (dBin mulD (dCst (.int 2)) (dVar 1)) (dCst (.int 1)))]) (dVar 1))
def sh__law_pencil : SDen :=
  (sSeq (sAsg (Tg.st (.tup [2, 3, 4, 5])) (dFr (fComp (iRng [(dCst (.int 4))]) (Tg.st (.var 10)) none ce1__law_pencil [10])))
  (sSeq (sAsg (Tg.st (.tup [6, 7, 8, 9])) (dFr (fComp (iRng [(dCst (.int 4))]) (Tg.st (.var 10)) none ce2__law_pencil [10])))
  (sSeq (sRetF (fLst [(dVar 2), (dVar 3), (dVar 4), (dVar 5), (dBin addD (dBin mulD (dVar 2) (dVar 6)) (dBin mulD (dVar 3) (dVar 8))), (dBin addD (dBin mulD (dVar 2) (dVar 7)) (dBin mulD (dVar 3) (dVar 9))), (dBin addD (dBin mulD (dVar 4) (dVar 6)) (dBin mulD (dVar 5) (dVar 8))), (dBin addD (dBin mulD (dVar 4) (dVar 7)) (dBin mulD (dVar 5) (dVar 9)))]))
  sNil)))
theorem fn__law_pencil_eq (l : List D) (a1 : D) : fn__law_pencil [.lst l, a1] = endP 0 (sh__law_pencil [.pi (.lst l), .va a1, .no, .no, .no, .no, .no, .no, .no, .no, .no]) := id rfl
abbrev fns_24 : List Fd := ⟨"_law_pencil", 2, some 0, fn__law_pencil⟩ :: fns_23
def df__law_eight : Df := ⟨"_law_eight", ["_law_drawn_here", "_law_far", "_law_kind", "_law_one_more", "_law_at", "_law_most", "_law_some", "_law_more", "_law_found", "_law_n"], 2,
  (.cons (.asg (.var 2) (.callP 6 0 (.own (.cons (.int 8) .nil)))) (.cons (.asg (.var 3) (.cmp .eq (.callP 6 0 (.own (.cons (.int 6) .nil))) (.int 5))) (.cons (.asg (.var 4) (.callP 6 0 (.own (.cons (.int 8) .nil)))) (.cons (.asg (.var 5) (.idx (.fr (.lst (.cons (.int 2) (.cons (.int 5) (.cons (.int 30) (.cons (.int 99999) .nil)))))) (.callP 6 0 (.own (.cons (.int 4) .nil))))) (.cons (.asg (.var 6) (.fr (.comp (.callP 5 0 (.own (.cons (.var 5) .nil))) [9] (.var 9) (.rng1 (.int 3)) .no))) (.cons (.asg (.var 7) (.fr (.comp (.callP 5 0 (.own (.cons (.var 5) .nil))) [9] (.var 9) (.rng1 (.int 3)) .no))) (.cons (.ifs (.cmp .eq (.var 2) (.int 0)) (.cons (.own 8 (.comp (.callP 4 0 (.own (.cons (.var 1) .nil))) [9] (.var 9) (.rng1 (.int 8)) .no)) .nil) (.cons (.ifs (.cmp .eq (.var 2) (.int 1)) (.cons (.own 8 (.comp (.bin .sub (.callP 6 0 (.own (.cons (.int 3) .nil))) (.int 1)) [9] (.var 9) (.rng1 (.int 8)) .no)) .nil) (.cons (.ifs (.cmp .eq (.var 2) (.int 2)) (.cons (.own 8 (.callP 1 0 (.own (.cons (.var 5) (.cons (.bin .mod (.var 4) (.int 3)) .nil))))) .nil) (.cons (.ifs (.cmp .eq (.var 2) (.int 3)) (.cons (.own 8 (.callP 0 0 (.own (.cons (.var 5) .nil)))) .nil) (.cons (.ifs (.cmp .eq (.var 2) (.int 4)) (.cons (.own 8 (.call 3 (.cons (.var 6) .nil))) .nil) (.cons (.ifs (.cmp .eq (.var 2) (.int 5)) (.cons (.own 8 (.call 2 (.cons (.call 3 (.cons (.var 6) .nil)) (.cons (.call 3 (.cons (.var 7) .nil)) .nil)))) .nil) (.cons (.own 8 (.call 3 (.cons (.fr (.lst (.cons (.idx (.var 7) (.int 0)) (.cons (.idx (.var 6) (.int 1)) (.cons (.idx (.var 6) (.int 2)) .nil))))) .nil))) (.cons (.own 8 (.call 2 (.cons (.var 8) (.cons (.call 3 (.cons (.fr (.lst (.cons (.idx (.var 6) (.int 0)) (.cons (.idx (.var 7) (.int 1)) (.cons (.idx (.var 6) (.int 2)) .nil))))) .nil)) .nil)))) (.cons (.own 8 (.call 2 (.cons (.var 8) (.cons (.call 3 (.cons (.fr (.lst (.cons (.idx (.var 6) (.int 0)) (.cons (.idx (.var 6) (.int 1)) (.cons (.idx (.var 7) (.int 2)) .nil))))) .nil)) .nil)))) .nil)))) .nil)) .nil)) .nil)) .nil)) .nil)) (.cons (.ifs (.or (.cons (.var 3) (.cons (.cmpB .eq 8 (.fr (.rep (.lst (.cons (.int 0) .nil)) 8))) .nil))) (.cons (.sub 8 (.var 4) (.bin .add (.ixO 8 (.var 4)) (.int 1))) .nil) .nil) (.cons (.ifs (.cmpB .eq 8 (.fr (.rep (.lst (.cons (.int 0) .nil)) 8))) (.cons (.sub 8 (.var 4) (.int 1)) .nil) .nil) (.cons (.ret (.bi .tup (.cons (.var 8) .nil))) .nil))))))))))⟩
def fn__law_eight : List D → RD := runP ⟨fns_24, cons, bis, hfns, rs, qs⟩ df__law_eight 0
def ce1__law_eight : Den :=
  (dCallP fn__law_pair 0 0 [none, some (dVar 5)])
def ce2__law_eight : Den :=
  (dCallP fn__law_pair 0 0 [none, some (dVar 5)])
def ce3__law_eight : Den :=
  (dCallP fn__law_number 0 0 [none, some (dVar 1)])
def ce4__law_eight : Den :=
  (dBin subD (dCallP fn__law_take 0 0 [none, some (dCst (.int 3))]) (dCst (.int 1)))
def sh__law_eight : SDen :=
  (sSeq (sAsg (Tg.st (.var 2)) (dCallP fn__law_take 0 0 [none, some (dCst (.int 8))]))
  (sSeq (sAsg (Tg.st (.var 3)) (dBin (COp.fn .eq) (dCallP fn__law_take 0 0 [none, some (dCst (.int 6))]) (dCst (.int 5))))
  (sSeq (sAsg (Tg.st (.var 4)) (dCallP fn__law_take 0 0 [none, some (dCst (.int 8))]))
  (sSeq (sAsg (Tg.st (.var 5)) (dBin idxD (dFr (fLst [(dCst (.int 2)), (dCst (.int 5)), (dCst (.int 30)), (dCst (.int 99999))])) (dCallP fn__law_take 0 0 [none, some (dCst (.int 4))])))
  (sSeq (sAsg (Tg.st (.var 6)) (dFr (fComp (iRng [(dCst (.int 3))]) (Tg.st (.var 9)) none ce1__law_eight [9])))
  (sSeq (sAsg (Tg.st (.var 7)) (dFr (fComp (iRng [(dCst (.int 3))]) (Tg.st (.var 9)) none ce2__law_eight [9])))
  (sSeq (sIf (dBin (COp.fn .eq) (dVar 2) (dCst (.int 0)))
  (sSeq (sOwn 8 (fComp (iRng [(dCst (.int 8))]) (Tg.st (.var 9)) none ce3__law_eight [9]))
  sNil)
  (sSeq (sIf (dBin (COp.fn .eq) (dVar 2) (dCst (.int 1)))
  (sSeq (sOwn 8 (fComp (iRng [(dCst (.int 8))]) (Tg.st (.var 9)) none ce4__law_eight [9]))
  sNil)
  (sSeq (sIf (dBin (COp.fn .eq) (dVar 2) (dCst (.int 2)))
  (sSeq (sOwn 8 (fCallP fn__law_parted_by 0 0 [none, some (dVar 5), some (dBin modD (dVar 4) (dCst (.int 3)))]))
  sNil)
  (sSeq (sIf (dBin (COp.fn .eq) (dVar 2) (dCst (.int 3)))
  (sSeq (sOwn 8 (fCallP fn__law_pencil 0 0 [none, some (dVar 5)]))
  sNil)
  (sSeq (sIf (dBin (COp.fn .eq) (dVar 2) (dCst (.int 4)))
  (sSeq (sOwn 8 (fCall fn__law_products [(dVar 6)]))
  sNil)
  (sSeq (sIf (dBin (COp.fn .eq) (dVar 2) (dCst (.int 5)))
  (sSeq (sOwn 8 (fCall fn__law_added [(dCall fn__law_products [(dVar 6)]), (dCall fn__law_products [(dVar 7)])]))
  sNil)
  (sSeq (sOwn 8 (fCall fn__law_products [(dFr (fLst [(dBin idxD (dVar 7) (dCst (.int 0))), (dBin idxD (dVar 6) (dCst (.int 1))), (dBin idxD (dVar 6) (dCst (.int 2)))]))]))
  (sSeq (sOwn 8 (fCall fn__law_added [(dVar 8), (dCall fn__law_products [(dFr (fLst [(dBin idxD (dVar 6) (dCst (.int 0))), (dBin idxD (dVar 7) (dCst (.int 1))), (dBin idxD (dVar 6) (dCst (.int 2)))]))])]))
  (sSeq (sOwn 8 (fCall fn__law_added [(dVar 8), (dCall fn__law_products [(dFr (fLst [(dBin idxD (dVar 6) (dCst (.int 0))), (dBin idxD (dVar 6) (dCst (.int 1))), (dBin idxD (dVar 7) (dCst (.int 2)))]))])]))
  sNil))))
  sNil))
  sNil))
  sNil))
  sNil))
  sNil))
  (sSeq (sIf (dOrs [(dVar 3), (dCmpB (COp.fn .eq) 8 (dFr (fRep (fLst [(dCst (.int 0))]) 8)))])
  (sSeq (sSub 8 (dVar 4) (dBin addD (dIxO 8 (dVar 4)) (dCst (.int 1))))
  sNil)
  sNil)
  (sSeq (sIf (dCmpB (COp.fn .eq) 8 (dFr (fRep (fLst [(dCst (.int 0))]) 8)))
  (sSeq (sSub 8 (dVar 4) (dCst (.int 1)))
  sNil)
  sNil)
  (sSeq (sRet (dBi tupL [(dVar 8)]))
  sNil))))))))))
theorem fn__law_eight_eq (l : List D) (a1 : D) : fn__law_eight [.lst l, a1] = endP 0 (sh__law_eight [.pi (.lst l), .va a1, .no, .no, .no, .no, .no, .no, .no, .no]) := id rfl
abbrev fns_25 : List Fd := ⟨"_law_eight", 2, some 0, fn__law_eight⟩ :: fns_24
def df__law_left : Df := ⟨"_law_left", ["_law_eight_here", "_law_which", "_law_one", "_law_step", "_law_n"], 3,
  (.cons (.asg (.var 3) (.idx (.fr (.lst (.cons (.int 4) (.cons (.int 2) (.cons (.int 1) .nil))))) (.var 1))) (.cons (.ret (.fr (.comp (.bin .add (.bin .mul (.idx (.var 2) (.int 1)) (.idx (.var 0) (.var 4))) (.bin .mul (.idx (.var 2) (.int 0)) (.idx (.var 0) (.bin .add (.var 4) (.var 3))))) [4] (.var 4) (.rng1 (.int 8)) (.so (.cmp .eq (.bin .mod (.bin .fdiv (.var 4) (.var 3)) (.int 2)) (.int 0)))))) .nil))⟩
def fn__law_left : List D → RD := runD ⟨fns_25, cons, bis, hfns, rs, qs⟩ df__law_left
def ct1__law_left : Den :=
  (dBin (COp.fn .eq) (dBin modD (dBin fdivD (dVar 4) (dVar 3)) (dCst (.int 2))) (dCst (.int 0)))
def ce1__law_left : Den :=
  (dBin addD (dBin mulD (dBin idxD (dVar 2) (dCst (.int 1))) (dBin idxD (dVar 0) (dVar 4))) (dBin mulD (dBin idxD (dVar 2) (dCst (.int 0))) (dBin idxD (dVar 0) (dBin addD (dVar 4) (dVar 3)))))
def sh__law_left : SDen :=
  (sSeq (sAsg (Tg.st (.var 3)) (dBin idxD (dFr (fLst [(dCst (.int 4)), (dCst (.int 2)), (dCst (.int 1))])) (dVar 1)))
  (sSeq (sRet (dFr (fComp (iRng [(dCst (.int 8))]) (Tg.st (.var 4)) (some ct1__law_left) ce1__law_left [4])))
  sNil))
theorem fn__law_left_eq (a0 a1 a2 : D) : fn__law_left [a0, a1, a2] = endD (sh__law_left [.va a0, .va a1, .va a2, .no, .no]) := id rfl
abbrev fns_26 : List Fd := ⟨"_law_left", 3, none, fn__law_left⟩ :: fns_25
def df__law_crosswise : Df := ⟨"_law_crosswise", ["_law_four"], 1,
  (.cons (.ret (.bin .sub (.bin .mul (.idx (.var 0) (.int 0)) (.idx (.var 0) (.int 3))) (.bin .mul (.idx (.var 0) (.int 1)) (.idx (.var 0) (.int 2))))) .nil)⟩
def fn__law_crosswise : List D → RD := runD ⟨fns_26, cons, bis, hfns, rs, qs⟩ df__law_crosswise
def sh__law_crosswise : SDen :=
  (sSeq (sRet (dBin subD (dBin mulD (dBin idxD (dVar 0) (dCst (.int 0))) (dBin idxD (dVar 0) (dCst (.int 3)))) (dBin mulD (dBin idxD (dVar 0) (dCst (.int 1))) (dBin idxD (dVar 0) (dCst (.int 2))))))
  sNil)
theorem fn__law_crosswise_eq (a0 : D) : fn__law_crosswise [a0] = endD (sh__law_crosswise [.va a0]) := id rfl
abbrev fns_27 : List Fd := ⟨"_law_crosswise", 1, none, fn__law_crosswise⟩ :: fns_26
def fuel__law_root : En → Nat := fun δ => match δ[1]? with | some (Sl.va (D.int b)) => b.natAbs + 1 | _ => 0
def df__law_root : Df := ⟨"_law_root", ["_law_number_here", "_law_found", "_law_lesser"], 1,
  (.cons (.ifs (.cmp .lt (.var 0) (.int 2)) (.cons (.ret (.var 0)) .nil) .nil) (.cons (.asg (.var 1) (.bin .shl (.int 1) (.bin .add (.bin .fdiv (.bitl (.var 0)) (.int 2)) (.int 1)))) (.cons (.asg (.var 2) (.bin .fdiv (.bin .add (.var 1) (.bin .fdiv (.var 0) (.var 1))) (.int 2))) (.cons (.whl [] fuel__law_root (.cmp .lt (.var 2) (.var 1)) (.cons (.asg (.var 1) (.var 2)) (.cons (.asg (.var 2) (.bin .fdiv (.bin .add (.var 1) (.bin .fdiv (.var 0) (.var 1))) (.int 2))) .nil))) (.cons (.ret (.var 1)) .nil)))))⟩
def fn__law_root : List D → RD := runD ⟨fns_27, cons, bis, hfns, rs, qs⟩ df__law_root
def lc1__law_root : Den :=
  (dBin (COp.fn .lt) (dVar 2) (dVar 1))
def lb1__law_root : SDen :=
  (sSeq (sAsg (Tg.st (.var 1)) (dVar 2))
  (sSeq (sAsg (Tg.st (.var 2)) (dBin fdivD (dBin addD (dVar 1) (dBin fdivD (dVar 0) (dVar 1))) (dCst (.int 2))))
  sNil))
def sh__law_root : SDen :=
  (sSeq (sIf (dBin (COp.fn .lt) (dVar 0) (dCst (.int 2)))
  (sSeq (sRet (dVar 0))
  sNil)
  sNil)
  (sSeq (sAsg (Tg.st (.var 1)) (dBin shlD (dCst (.int 1)) (dBin addD (dBin fdivD (dUn bitD (dVar 0)) (dCst (.int 2))) (dCst (.int 1)))))
  (sSeq (sAsg (Tg.st (.var 2)) (dBin fdivD (dBin addD (dVar 1) (dBin fdivD (dVar 0) (dVar 1))) (dCst (.int 2))))
  (sSeq (sWhl [] fuel__law_root lc1__law_root lb1__law_root)
  (sSeq (sRet (dVar 1))
  sNil)))))
theorem fn__law_root_eq (a0 : D) : fn__law_root [a0] = endD (sh__law_root [.va a0, .no, .no]) := id rfl
abbrev fns_28 : List Fd := ⟨"_law_root", 1, none, fn__law_root⟩ :: fns_27
def fuel__law_value : En → Nat := fun δ => match δ[2]? with | some (Sl.va (D.int b)) => b.natAbs + 1 | _ => 0
def df__law_value : Df := ⟨"_law_value", ["_law_one", "_law_top", "_law_bottom"], 1,
  (.cons (.ifs (.or (.cons (.not (.isi .tup (.var 0))) (.cons (.cmp .ne (.bi .len (.cons (.var 0) .nil)) (.int 2)) (.cons (.not (.call 12 (.cons (.idx (.var 0) (.int 0)) .nil))) (.cons (.not (.call 12 (.cons (.idx (.var 0) (.int 1)) .nil))) .nil))))) (.cons (.ret (.bl false)) .nil) .nil) (.cons (.ifs (.cmp .eq (.idx (.var 0) (.int 1)) (.int 0)) (.cons (.ret (.cmp .eq (.idx (.var 0) (.int 0)) (.int 1))) .nil) .nil) (.cons (.asg (.tup [1, 2]) (.var 0)) (.cons (.whl [] fuel__law_value (.cmp .ne (.var 2) (.int 0)) (.cons (.par 1 2 (.var 2) (.bin .mod (.var 1) (.var 2))) .nil)) (.cons (.ret (.and (.cons (.cmp .gt (.idx (.var 0) (.int 1)) (.int 0)) (.cons (.cmp .eq (.bi .abs (.cons (.var 1) .nil)) (.int 1)) .nil)))) .nil)))))⟩
def fn__law_value : List D → RD := runD ⟨fns_28, cons, bis, hfns, rs, qs⟩ df__law_value
def lc1__law_value : Den :=
  (dBin (COp.fn .ne) (dVar 2) (dCst (.int 0)))
def lb1__law_value : SDen :=
  (sSeq (sPar 1 2 [(dVar 2), (dBin modD (dVar 1) (dVar 2))])
  sNil)
def sh__law_value : SDen :=
  (sSeq (sIf (dOrs [(dUn notD (dUn (isiD (Ty.s .tup)) (dVar 0))), (dBin (COp.fn .ne) (dBi lenL [(dVar 0)]) (dCst (.int 2))), (dUn notD (dCall fn__law_whole [(dBin idxD (dVar 0) (dCst (.int 0)))])), (dUn notD (dCall fn__law_whole [(dBin idxD (dVar 0) (dCst (.int 1)))]))])
  (sSeq (sRet (dCst (.bl false)))
  sNil)
  sNil)
  (sSeq (sIf (dBin (COp.fn .eq) (dBin idxD (dVar 0) (dCst (.int 1))) (dCst (.int 0)))
  (sSeq (sRet (dBin (COp.fn .eq) (dBin idxD (dVar 0) (dCst (.int 0))) (dCst (.int 1))))
  sNil)
  sNil)
  (sSeq (sAsg (Tg.st (.tup [1, 2])) (dVar 0))
  (sSeq (sWhl [] fuel__law_value lc1__law_value lb1__law_value)
  (sSeq (sRet (dAnds [(dBin (COp.fn .gt) (dBin idxD (dVar 0) (dCst (.int 1))) (dCst (.int 0))), (dBin (COp.fn .eq) (dBi absL [(dVar 1)]) (dCst (.int 1)))]))
  sNil)))))
theorem fn__law_value_eq (a0 : D) : fn__law_value [a0] = endD (sh__law_value [.va a0, .no, .no]) := id rfl
abbrev fns_29 : List Fd := ⟨"_law_value", 1, none, fn__law_value⟩ :: fns_28
def df__law_many : Df := ⟨"_law_many", ["_law_whole_here"], 1,
  (.cons (.ifs (.cmp .lt (.var 0) (.int 0)) (.cons (.ret (.int 0)) .nil) .nil) (.cons (.ifs (.cmp .eq (.var 0) (.int 0)) (.cons (.ret (.int 1)) .nil) .nil) (.cons (.ret (.bin .mul (.int 2) (.bi .int (.cons (.cmp .eq (.bin .mul (.call 1 (.cons (.var 0) .nil)) (.call 1 (.cons (.var 0) .nil))) (.var 0)) .nil)))) .nil)))⟩
def fn__law_many : List D → RD := runD ⟨fns_29, cons, bis, hfns, rs, qs⟩ df__law_many
def sh__law_many : SDen :=
  (sSeq (sIf (dBin (COp.fn .lt) (dVar 0) (dCst (.int 0)))
  (sSeq (sRet (dCst (.int 0)))
  sNil)
  sNil)
  (sSeq (sIf (dBin (COp.fn .eq) (dVar 0) (dCst (.int 0)))
  (sSeq (sRet (dCst (.int 1)))
  sNil)
  sNil)
  (sSeq (sRet (dBin mulD (dCst (.int 2)) (dBi intL [(dBin (COp.fn .eq) (dBin mulD (dCall fn__law_root [(dVar 0)]) (dCall fn__law_root [(dVar 0)])) (dVar 0))])))
  sNil)))
theorem fn__law_many_eq (a0 : D) : fn__law_many [a0] = endD (sh__law_many [.va a0]) := id rfl
abbrev fns_30 : List Fd := ⟨"_law_many", 1, none, fn__law_many⟩ :: fns_29
def df__law_list : Df := ⟨"_law_list", ["_law_eight_here", "_law_which", "_law_found", "_law_many_here", "_law_one"], 4,
  (.cons (.ifs (.or (.cons (.not (.isi .lst (.var 2))) (.cons (.cmp .ne (.bi .len (.cons (.var 2) .nil)) (.var 3)) .nil))) (.cons (.ret (.bl false)) .nil) .nil) (.cons (.for [4] (.var 4) (.seq (.var 2)) (.cons (.ifs (.or (.cons (.not (.call 1 (.cons (.var 4) .nil))) (.cons (.cmp .ne (.call 3 (.cons (.call 4 (.cons (.var 0) (.cons (.var 1) (.cons (.var 4) .nil)))) .nil)) (.int 0)) .nil))) (.cons (.ret (.bl false)) .nil) .nil) .nil)) (.cons (.ret (.or (.cons (.cmp .lt (.var 3) (.int 2)) (.cons (.cmp .lt (.bin .mul (.idx (.idx (.var 2) (.int 0)) (.int 0)) (.idx (.idx (.var 2) (.int 1)) (.int 1))) (.bin .mul (.idx (.idx (.var 2) (.int 1)) (.int 0)) (.idx (.idx (.var 2) (.int 0)) (.int 1)))) .nil)))) .nil)))⟩
def fn__law_list : List D → RD := runD ⟨fns_30, cons, bis, hfns, rs, qs⟩ df__law_list
def lb1__law_list : SDen :=
  (sSeq (sIf (dOrs [(dUn notD (dCall fn__law_value [(dVar 4)])), (dBin (COp.fn .ne) (dCall fn__law_crosswise [(dCall fn__law_left [(dVar 0), (dVar 1), (dVar 4)])]) (dCst (.int 0)))])
  (sSeq (sRet (dCst (.bl false)))
  sNil)
  sNil)
  sNil)
def sh__law_list : SDen :=
  (sSeq (sIf (dOrs [(dUn notD (dUn (isiD (Ty.s .lst)) (dVar 2))), (dBin (COp.fn .ne) (dBi lenL [(dVar 2)]) (dVar 3))])
  (sSeq (sRet (dCst (.bl false)))
  sNil)
  sNil)
  (sSeq (sFor [4] (iSeq (dVar 2)) (Tg.st (.var 4)) lb1__law_list)
  (sSeq (sRet (dOrs [(dBin (COp.fn .lt) (dVar 3) (dCst (.int 2))), (dBin (COp.fn .lt) (dBin mulD (dBin idxD (dBin idxD (dVar 2) (dCst (.int 0))) (dCst (.int 0))) (dBin idxD (dBin idxD (dVar 2) (dCst (.int 1))) (dCst (.int 1)))) (dBin mulD (dBin idxD (dBin idxD (dVar 2) (dCst (.int 1))) (dCst (.int 0))) (dBin idxD (dBin idxD (dVar 2) (dCst (.int 0))) (dCst (.int 1)))))]))
  sNil)))
theorem fn__law_list_eq (a0 a1 a2 a3 : D) : fn__law_list [a0, a1, a2, a3] = endD (sh__law_list [.va a0, .va a1, .va a2, .va a3, .no]) := id rfl
abbrev fns_31 : List Fd := ⟨"_law_list", 4, none, fn__law_list⟩ :: fns_30
def df_law : Df := ⟨"law", ["_law_script", "_law_k", "_law_drawn_here", "_law_eight_here", "_law_many_here", "_law_none", "_law_which", "_law_found", "_law_some", "_law_one", "_law_kept"], 1,
  (.cons (.for [1, 2, 3, 4, 5, 6, 7, 8, 10] (.var 1) (.rng1 (.bi .min (.cons (.int 63) (.cons (.bin .add (.bi .len (.cons (.var 0) .nil)) (.int 1)) .nil)))) (.cons (.own 2 (.call 14 (.cons (.call 16 (.cons (.var 0) (.cons (.var 1) .nil))) (.cons (.var 1) .nil)))) (.cons (.asg (.var 3) (.callP 6 2 (.own (.cons (.idx (.fr (.lst (.cons (.bin .sub (.bin .pow (.int 10) (.int 9)) (.int 1)) (.cons (.bin .sub (.bin .pow (.int 10) (.int 19)) (.int 1)) .nil)))) (.bi .int (.cons (.cmp .lt (.var 1) (.int 12)) .nil))) .nil)))) (.cons (.asg (.var 4) (.call 1 (.cons (.call 23 (.cons (.var 3) .nil)) .nil))) (.cons (.asg (.var 5) (.int 0)) (.cons (.for [6, 7, 8, 10] (.var 6) (.rng1 (.int 3)) (.cons (.ownC 7 17 (.cons (.var 3) (.cons (.var 6) .nil))) (.cons (.asg (.var 8) (.fr (.comp (.call 4 (.cons (.call 5 (.cons (.var 3) (.cons (.var 6) (.cons (.var 9) .nil)))) .nil)) [9] (.var 9) (.seq (.fr (.lst (.cons (.tup (.cons (.int 0) (.cons (.int 1) .nil))) (.cons (.tup (.cons (.int 1) (.cons (.int 0) .nil))) (.cons (.tup (.cons (.int 1) (.cons (.int 1) .nil))) .nil)))))) .no))) (.cons (.ifs (.cmp .eq (.var 8) (.fr (.lst (.cons (.int 0) (.cons (.int 0) (.cons (.int 0) .nil)))))) (.cons (.asg (.var 5) (.bin .add (.var 5) (.int 1))) (.cons (.ifs (.or (.cons (.iscB true 7) (.cons (.cmp .ne (.var 4) (.int 1)) .nil))) (.cons (.ret (.bl false)) .nil) .nil) .nil)) (.cons (.ifs (.or (.cons (.iscB false 7) (.cons (.not (.callB 0 2 7 (.cons (.var 3) (.cons (.var 6) (.own (.cons (.var 4) .nil)))))) .nil))) (.cons (.ret (.bl false)) .nil) (.cons (.asg (.var 10) (.fr (.listB 7))) (.cons (.app 7 (.tup (.cons (.int 0) (.cons (.int 1) .nil)))) (.cons (.ifs (.cmp .ne (.call 17 (.cons (.var 3) (.cons (.var 6) .nil))) (.var 10)) (.cons (.ret (.bl false)) .nil) .nil) .nil)))) .nil)) .nil)))) (.cons (.ifs (.cmp .eq (.var 5) (.int 1)) (.cons (.ret (.bl false)) .nil) .nil) .nil))))))) (.cons (.ret (.bl true)) .nil))⟩
def fn_law : List D → RD := runD ⟨fns_31, cons, bis, hfns, rs, qs⟩ df_law
def ce1_law : Den :=
  (dCall fn__law_crosswise [(dCall fn__law_left [(dVar 3), (dVar 6), (dVar 9)])])
def lb2_law : SDen :=
  (sSeq (sOwnC 7 (cCall fn_roots [(dVar 3), (dVar 6)]))
  (sSeq (sAsg (Tg.st (.var 8)) (dFr (fComp (iSeq (dFr (fLst [(dTup [(dCst (.int 0)), (dCst (.int 1))]), (dTup [(dCst (.int 1)), (dCst (.int 0))]), (dTup [(dCst (.int 1)), (dCst (.int 1))])]))) (Tg.st (.var 9)) none ce1_law [9])))
  (sSeq (sIf (dBin (COp.fn .eq) (dVar 8) (dFr (fLst [(dCst (.int 0)), (dCst (.int 0)), (dCst (.int 0))])))
  (sSeq (sAsg (Tg.st (.var 5)) (dBin addD (dVar 5) (dCst (.int 1))))
  (sSeq (sIf (dOrs [(dCmpB (isD true) 7 (dCst .non)), (dBin (COp.fn .ne) (dVar 4) (dCst (.int 1)))])
  (sSeq (sRet (dCst (.bl false)))
  sNil)
  sNil)
  sNil))
  (sSeq (sIf (dOrs [(dCmpB (isD false) 7 (dCst .non)), (dUn notD (dCallB fn__law_list 2 7 [some (dVar 3), some (dVar 6), none, some (dVar 4)]))])
  (sSeq (sRet (dCst (.bl false)))
  sNil)
  (sSeq (sAsg (Tg.st (.var 10)) (dFr (fListB 7)))
  (sSeq (sApp 7 (dTup [(dCst (.int 0)), (dCst (.int 1))]))
  (sSeq (sIf (dBin (COp.fn .ne) (dCall fn_roots [(dVar 3), (dVar 6)]) (dVar 10))
  (sSeq (sRet (dCst (.bl false)))
  sNil)
  sNil)
  sNil))))
  sNil))
  sNil)))
def lb1_law : SDen :=
  (sSeq (sOwn 2 (fCall fn__law_drawn [(dCall fn__law_cell_at [(dVar 0), (dVar 1)]), (dVar 1)]))
  (sSeq (sAsg (Tg.st (.var 3)) (dCallP fn__law_eight 0 2 [none, some (dBin idxD (dFr (fLst [(dBin subD (dBin powD (dCst (.int 10)) (dCst (.int 9))) (dCst (.int 1))), (dBin subD (dBin powD (dCst (.int 10)) (dCst (.int 19))) (dCst (.int 1)))])) (dBi intL [(dBin (COp.fn .lt) (dVar 1) (dCst (.int 12)))]))]))
  (sSeq (sAsg (Tg.st (.var 4)) (dCall fn__law_many [(dCall fn_measure [(dVar 3)])]))
  (sSeq (sAsg (Tg.st (.var 5)) (dCst (.int 0)))
  (sSeq (sFor [6, 7, 8, 10] (iRng [(dCst (.int 3))]) (Tg.st (.var 6)) lb2_law)
  (sSeq (sIf (dBin (COp.fn .eq) (dVar 5) (dCst (.int 1)))
  (sSeq (sRet (dCst (.bl false)))
  sNil)
  sNil)
  sNil))))))
def sh_law : SDen :=
  (sSeq (sFor [1, 2, 3, 4, 5, 6, 7, 8, 10] (iRng [(dBi minL [(dCst (.int 63)), (dBin addD (dBi lenL [(dVar 0)]) (dCst (.int 1)))])]) (Tg.st (.var 1)) lb1_law)
  (sSeq (sRet (dCst (.bl true)))
  sNil))
theorem fn_law_eq (a0 : D) : fn_law [a0] = endD (sh_law [.va a0, .no, .no, .no, .no, .no, .no, .no, .no, .no, .no]) := id rfl
abbrev fns_32 : List Fd := ⟨"law", 1, none, fn_law⟩ :: fns_31
def topS (i : Nat) : Stmt := PySem.Challenge.pw_threadchart_k68_roots_of_eights.main.body.getD i (.Pass ⟨0, 0, 0, 0⟩)
abbrev st_is_whole : Stmt := topS 6
abbrev st_divisor : Stmt := topS 7
abbrev st_value : Stmt := topS 8
abbrev st_under : Stmt := topS 9
abbrev st_is_eight : Stmt := topS 12
abbrev st_look_at_eight : Stmt := topS 13
abbrev st_measure_of : Stmt := topS 14
abbrev st_measure : Stmt := topS 15
abbrev st_whole_root : Stmt := topS 16
abbrev st_sides_of : Stmt := topS 17
abbrev st_quadratic_of : Stmt := topS 18
abbrev st_without_square : Stmt := topS 19
abbrev st_roots_of : Stmt := topS 20
abbrev st_roots : Stmt := topS 21
abbrev st__law_cell_at : Stmt := topS 23
abbrev st__law_whole : Stmt := topS 24
abbrev st__law_drawn : Stmt := topS 25
abbrev st__law_take : Stmt := topS 26
abbrev st__law_pair : Stmt := topS 27
abbrev st__law_number : Stmt := topS 28
abbrev st__law_products : Stmt := topS 29
abbrev st__law_added : Stmt := topS 30
abbrev st__law_parted_by : Stmt := topS 31
abbrev st__law_pencil : Stmt := topS 32
abbrev st__law_eight : Stmt := topS 33
abbrev st__law_left : Stmt := topS 34
abbrev st__law_crosswise : Stmt := topS 35
abbrev st__law_root : Stmt := topS 36
abbrev st__law_value : Stmt := topS 37
abbrev st__law_many : Stmt := topS 38
abbrev st__law_list : Stmt := topS 39
abbrev st_law : Stmt := topS 40
theorem ck_is_whole : df_is_whole.ck ⟨fns_0, cons, bis, hfns, rs, qs⟩ st_is_whole = true := by decide +kernel
theorem ck_divisor : df_divisor.ck ⟨fns_1, cons, bis, hfns, rs, qs⟩ st_divisor = true := by decide +kernel
theorem ck_value : df_value.ck ⟨fns_2, cons, bis, hfns, rs, qs⟩ st_value = true := by decide +kernel
theorem ck_under : df_under.ck ⟨fns_3, cons, bis, hfns, rs, qs⟩ st_under = true := by decide +kernel
theorem ck_is_eight : df_is_eight.ck ⟨fns_4, cons, bis, hfns, rs, qs⟩ st_is_eight = true := by decide +kernel
theorem ck_look_at_eight : df_look_at_eight.ck ⟨fns_5, cons, bis, hfns, rs, qs⟩ st_look_at_eight = true := by decide +kernel
theorem ck_measure_of : df_measure_of.ck ⟨fns_6, cons, bis, hfns, rs, qs⟩ st_measure_of = true := by decide +kernel
theorem ck_measure : df_measure.ck ⟨fns_7, cons, bis, hfns, rs, qs⟩ st_measure = true := by decide +kernel
theorem ck_whole_root : df_whole_root.ck ⟨fns_8, cons, bis, hfns, rs, qs⟩ st_whole_root = true := by decide +kernel
theorem ck_sides_of : df_sides_of.ck ⟨fns_9, cons, bis, hfns, rs, qs⟩ st_sides_of = true := by decide +kernel
theorem ck_quadratic_of : df_quadratic_of.ck ⟨fns_10, cons, bis, hfns, rs, qs⟩ st_quadratic_of = true := by decide +kernel
theorem ck_without_square : df_without_square.ck ⟨fns_11, cons, bis, hfns, rs, qs⟩ st_without_square = true := by decide +kernel
theorem ck_roots_of : df_roots_of.ck ⟨fns_12, cons, bis, hfns, rs, qs⟩ st_roots_of = true := by decide +kernel
theorem ck_roots : df_roots.ck ⟨fns_13, cons, bis, hfns, rs, qs⟩ st_roots = true := by decide +kernel
theorem ck__law_cell_at : df__law_cell_at.ck ⟨fns_14, cons, bis, hfns, rs, qs⟩ st__law_cell_at = true := by decide +kernel
theorem ck__law_whole : df__law_whole.ck ⟨fns_15, cons, bis, hfns, rs, qs⟩ st__law_whole = true := by decide +kernel
theorem ck__law_drawn : df__law_drawn.ck ⟨fns_16, cons, bis, hfns, rs, qs⟩ st__law_drawn = true := by decide +kernel
theorem ck__law_take : df__law_take.ck ⟨fns_17, cons, bis, hfns, rs, qs⟩ st__law_take = true := by decide +kernel
theorem ck__law_pair : df__law_pair.ck ⟨fns_18, cons, bis, hfns, rs, qs⟩ st__law_pair = true := by decide +kernel
theorem ck__law_number : df__law_number.ck ⟨fns_19, cons, bis, hfns, rs, qs⟩ st__law_number = true := by decide +kernel
theorem ck__law_products : df__law_products.ck ⟨fns_20, cons, bis, hfns, rs, qs⟩ st__law_products = true := by decide +kernel
theorem ck__law_added : df__law_added.ck ⟨fns_21, cons, bis, hfns, rs, qs⟩ st__law_added = true := by decide +kernel
theorem ck__law_parted_by : df__law_parted_by.ck ⟨fns_22, cons, bis, hfns, rs, qs⟩ st__law_parted_by = true := by decide +kernel
theorem ck__law_pencil : df__law_pencil.ck ⟨fns_23, cons, bis, hfns, rs, qs⟩ st__law_pencil = true := by decide +kernel
theorem ck__law_eight : df__law_eight.ck ⟨fns_24, cons, bis, hfns, rs, qs⟩ st__law_eight = true := by decide +kernel
theorem ck__law_left : df__law_left.ck ⟨fns_25, cons, bis, hfns, rs, qs⟩ st__law_left = true := by decide +kernel
theorem ck__law_crosswise : df__law_crosswise.ck ⟨fns_26, cons, bis, hfns, rs, qs⟩ st__law_crosswise = true := by decide +kernel
theorem ck__law_root : df__law_root.ck ⟨fns_27, cons, bis, hfns, rs, qs⟩ st__law_root = true := by decide +kernel
theorem ck__law_value : df__law_value.ck ⟨fns_28, cons, bis, hfns, rs, qs⟩ st__law_value = true := by decide +kernel
theorem ck__law_many : df__law_many.ck ⟨fns_29, cons, bis, hfns, rs, qs⟩ st__law_many = true := by decide +kernel
theorem ck__law_list : df__law_list.ck ⟨fns_30, cons, bis, hfns, rs, qs⟩ st__law_list = true := by decide +kernel
theorem ck_law : df_law.ck ⟨fns_31, cons, bis, hfns, rs, qs⟩ st_law = true := by decide +kernel
theorem all_mk {P : Program} {w : World} {K : PySem.W.Frag} {h : Heap} {mg : Str → Option Value} {fa : Addr} (X : K.In h) (G : h.Ns mainGlobals mg) (hfa : mg "law" = some (.ref fa))
    {f0 f1 f2 f3 f4 f5 f6 f7 f8 f9 f10 f11 f12 f13 f14 f15 f16 f17 f18 f19 f20 f21 f22 f23 f24 f25 f26 f27 f28 f29 f30 f31 : Addr} {od0 an0 od1 an1 od2 an2 od3 an3 od4 an4 od5 an5 od6 an6 od7 an7 od8 an8 od9 an9 od10 an10 od11 an11 od12 an12 od13 an13 od14 an14 od15 an15 od16 an16 od17 an17 od18 an18 od19 an19 od20 an20 od21 an21 od22 an22 od23 an23 od24 an24 od25 an25 od26 an26 od27 an27 od28 an28 od29 an29 od30 an30 od31 an31 : Option Addr} {sl0 sl1 sl2 sl3 sl4 sl5 sl6 sl7 sl8 sl9 sl10 sl11 sl12 sl13 sl14 sl15 sl16 sl17 sl18 sl19 sl20 sl21 sl22 sl23 sl24 sl25 sl26 sl27 sl28 sl29 sl30 sl31 : Array (Option Value)} {oc0 kV0 dc0 pm0 cd0 ct0 oc1 kV1 dc1 pm1 cd1 ct1 oc2 kV2 dc2 pm2 cd2 ct2 oc3 kV3 dc3 pm3 cd3 ct3 oc4 kV4 dc4 pm4 cd4 ct4 oc5 kV5 dc5 pm5 cd5 ct5 oc6 kV6 dc6 pm6 cd6 ct6 oc7 kV7 dc7 pm7 cd7 ct7 oc8 kV8 dc8 pm8 cd8 ct8 oc9 kV9 dc9 pm9 cd9 ct9 oc10 kV10 dc10 pm10 cd10 ct10 oc11 kV11 dc11 pm11 cd11 ct11 oc12 kV12 dc12 pm12 cd12 ct12 oc13 kV13 dc13 pm13 cd13 ct13 oc14 kV14 dc14 pm14 cd14 ct14 oc15 kV15 dc15 pm15 cd15 ct15 oc16 kV16 dc16 pm16 cd16 ct16 oc17 kV17 dc17 pm17 cd17 ct17 oc18 kV18 dc18 pm18 cd18 ct18 oc19 kV19 dc19 pm19 cd19 ct19 oc20 kV20 dc20 pm20 cd20 ct20 oc21 kV21 dc21 pm21 cd21 ct21 oc22 kV22 dc22 pm22 cd22 ct22 oc23 kV23 dc23 pm23 cd23 ct23 oc24 kV24 dc24 pm24 cd24 ct24 oc25 kV25 dc25 pm25 cd25 ct25 oc26 kV26 dc26 pm26 cd26 ct26 oc27 kV27 dc27 pm27 cd27 ct27 oc28 kV28 dc28 pm28 cd28 ct28 oc29 kV29 dc29 pm29 cd29 ct29 oc30 kV30 dc30 pm30 cd30 ct30 oc31 kV31 dc31 pm31 cd31 ct31 : Value}
    (a0_0 : PySem.W.nsIn K mainGlobals "is_whole" = some (some (.ref f0))) (l0 : K.lookup f0 = some ⟨oc0, od0, .func (PySem.W.fnOf "is_whole" "is_whole" (defArgs st_is_whole) (defBody st_is_whole) (defScope st_is_whole) .none kV0 dc0 pm0 an0 cd0 ct0), sl0⟩) (c0 : PySem.W.codeIn K cd0 "is_whole" = true) (k0 : PySem.W.keepIn K (.ref f0) = true)
    (a1_0 : PySem.W.nsIn K mainGlobals "divisor" = some (some (.ref f1))) (l1 : K.lookup f1 = some ⟨oc1, od1, .func (PySem.W.fnOf "divisor" "divisor" (defArgs st_divisor) (defBody st_divisor) (defScope st_divisor) .none kV1 dc1 pm1 an1 cd1 ct1), sl1⟩) (c1 : PySem.W.codeIn K cd1 "divisor" = true) (k1 : PySem.W.keepIn K (.ref f1) = true)
    (a2_0 : PySem.W.nsIn K mainGlobals "value" = some (some (.ref f2))) (l2 : K.lookup f2 = some ⟨oc2, od2, .func (PySem.W.fnOf "value" "value" (defArgs st_value) (defBody st_value) (defScope st_value) .none kV2 dc2 pm2 an2 cd2 ct2), sl2⟩) (c2 : PySem.W.codeIn K cd2 "value" = true) (k2 : PySem.W.keepIn K (.ref f2) = true)
    (a3_0 : PySem.W.nsIn K mainGlobals "under" = some (some (.ref f3))) (l3 : K.lookup f3 = some ⟨oc3, od3, .func (PySem.W.fnOf "under" "under" (defArgs st_under) (defBody st_under) (defScope st_under) .none kV3 dc3 pm3 an3 cd3 ct3), sl3⟩) (c3 : PySem.W.codeIn K cd3 "under" = true) (k3 : PySem.W.keepIn K (.ref f3) = true)
    (a4_0 : PySem.W.nsIn K mainGlobals "is_eight" = some (some (.ref f4))) (l4 : K.lookup f4 = some ⟨oc4, od4, .func (PySem.W.fnOf "is_eight" "is_eight" (defArgs st_is_eight) (defBody st_is_eight) (defScope st_is_eight) .none kV4 dc4 pm4 an4 cd4 ct4), sl4⟩) (c4 : PySem.W.codeIn K cd4 "is_eight" = true) (k4 : PySem.W.keepIn K (.ref f4) = true)
    (a5_0 : PySem.W.nsIn K mainGlobals "look_at_eight" = some (some (.ref f5))) (l5 : K.lookup f5 = some ⟨oc5, od5, .func (PySem.W.fnOf "look_at_eight" "look_at_eight" (defArgs st_look_at_eight) (defBody st_look_at_eight) (defScope st_look_at_eight) .none kV5 dc5 pm5 an5 cd5 ct5), sl5⟩) (c5 : PySem.W.codeIn K cd5 "look_at_eight" = true) (k5 : PySem.W.keepIn K (.ref f5) = true)
    (a6_0 : PySem.W.nsIn K mainGlobals "measure_of" = some (some (.ref f6))) (l6 : K.lookup f6 = some ⟨oc6, od6, .func (PySem.W.fnOf "measure_of" "measure_of" (defArgs st_measure_of) (defBody st_measure_of) (defScope st_measure_of) .none kV6 dc6 pm6 an6 cd6 ct6), sl6⟩) (c6 : PySem.W.codeIn K cd6 "measure_of" = true) (k6 : PySem.W.keepIn K (.ref f6) = true)
    (a7_0 : PySem.W.nsIn K mainGlobals "measure" = some (some (.ref f7))) (l7 : K.lookup f7 = some ⟨oc7, od7, .func (PySem.W.fnOf "measure" "measure" (defArgs st_measure) (defBody st_measure) (defScope st_measure) .none kV7 dc7 pm7 an7 cd7 ct7), sl7⟩) (c7 : PySem.W.codeIn K cd7 "measure" = true) (k7 : PySem.W.keepIn K (.ref f7) = true)
    (a8_0 : PySem.W.nsIn K mainGlobals "whole_root" = some (some (.ref f8))) (l8 : K.lookup f8 = some ⟨oc8, od8, .func (PySem.W.fnOf "whole_root" "whole_root" (defArgs st_whole_root) (defBody st_whole_root) (defScope st_whole_root) .none kV8 dc8 pm8 an8 cd8 ct8), sl8⟩) (c8 : PySem.W.codeIn K cd8 "whole_root" = true) (k8 : PySem.W.keepIn K (.ref f8) = true)
    (a9_0 : PySem.W.nsIn K mainGlobals "sides_of" = some (some (.ref f9))) (l9 : K.lookup f9 = some ⟨oc9, od9, .func (PySem.W.fnOf "sides_of" "sides_of" (defArgs st_sides_of) (defBody st_sides_of) (defScope st_sides_of) .none kV9 dc9 pm9 an9 cd9 ct9), sl9⟩) (c9 : PySem.W.codeIn K cd9 "sides_of" = true) (k9 : PySem.W.keepIn K (.ref f9) = true)
    (a10_0 : PySem.W.nsIn K mainGlobals "quadratic_of" = some (some (.ref f10))) (l10 : K.lookup f10 = some ⟨oc10, od10, .func (PySem.W.fnOf "quadratic_of" "quadratic_of" (defArgs st_quadratic_of) (defBody st_quadratic_of) (defScope st_quadratic_of) .none kV10 dc10 pm10 an10 cd10 ct10), sl10⟩) (c10 : PySem.W.codeIn K cd10 "quadratic_of" = true) (k10 : PySem.W.keepIn K (.ref f10) = true)
    (a11_0 : PySem.W.nsIn K mainGlobals "without_square" = some (some (.ref f11))) (l11 : K.lookup f11 = some ⟨oc11, od11, .func (PySem.W.fnOf "without_square" "without_square" (defArgs st_without_square) (defBody st_without_square) (defScope st_without_square) .none kV11 dc11 pm11 an11 cd11 ct11), sl11⟩) (c11 : PySem.W.codeIn K cd11 "without_square" = true) (k11 : PySem.W.keepIn K (.ref f11) = true)
    (a12_0 : PySem.W.nsIn K mainGlobals "roots_of" = some (some (.ref f12))) (l12 : K.lookup f12 = some ⟨oc12, od12, .func (PySem.W.fnOf "roots_of" "roots_of" (defArgs st_roots_of) (defBody st_roots_of) (defScope st_roots_of) .none kV12 dc12 pm12 an12 cd12 ct12), sl12⟩) (c12 : PySem.W.codeIn K cd12 "roots_of" = true) (k12 : PySem.W.keepIn K (.ref f12) = true)
    (a13_0 : PySem.W.nsIn K mainGlobals "roots" = some (some (.ref f13))) (l13 : K.lookup f13 = some ⟨oc13, od13, .func (PySem.W.fnOf "roots" "roots" (defArgs st_roots) (defBody st_roots) (defScope st_roots) .none kV13 dc13 pm13 an13 cd13 ct13), sl13⟩) (c13 : PySem.W.codeIn K cd13 "roots" = true) (k13 : PySem.W.keepIn K (.ref f13) = true)
    (a14_0 : PySem.W.nsIn K mainGlobals "_law_cell_at" = some (some (.ref f14))) (l14 : K.lookup f14 = some ⟨oc14, od14, .func (PySem.W.fnOf "_law_cell_at" "_law_cell_at" (defArgs st__law_cell_at) (defBody st__law_cell_at) (defScope st__law_cell_at) .none kV14 dc14 pm14 an14 cd14 ct14), sl14⟩) (c14 : PySem.W.codeIn K cd14 "_law_cell_at" = true) (k14 : PySem.W.keepIn K (.ref f14) = true)
    (a15_0 : PySem.W.nsIn K mainGlobals "_law_whole" = some (some (.ref f15))) (l15 : K.lookup f15 = some ⟨oc15, od15, .func (PySem.W.fnOf "_law_whole" "_law_whole" (defArgs st__law_whole) (defBody st__law_whole) (defScope st__law_whole) .none kV15 dc15 pm15 an15 cd15 ct15), sl15⟩) (c15 : PySem.W.codeIn K cd15 "_law_whole" = true) (k15 : PySem.W.keepIn K (.ref f15) = true)
    (a16_0 : PySem.W.nsIn K mainGlobals "_law_drawn" = some (some (.ref f16))) (l16 : K.lookup f16 = some ⟨oc16, od16, .func (PySem.W.fnOf "_law_drawn" "_law_drawn" (defArgs st__law_drawn) (defBody st__law_drawn) (defScope st__law_drawn) .none kV16 dc16 pm16 an16 cd16 ct16), sl16⟩) (c16 : PySem.W.codeIn K cd16 "_law_drawn" = true) (k16 : PySem.W.keepIn K (.ref f16) = true)
    (a17_0 : PySem.W.nsIn K mainGlobals "_law_take" = some (some (.ref f17))) (l17 : K.lookup f17 = some ⟨oc17, od17, .func (PySem.W.fnOf "_law_take" "_law_take" (defArgs st__law_take) (defBody st__law_take) (defScope st__law_take) .none kV17 dc17 pm17 an17 cd17 ct17), sl17⟩) (c17 : PySem.W.codeIn K cd17 "_law_take" = true) (k17 : PySem.W.keepIn K (.ref f17) = true)
    (a18_0 : PySem.W.nsIn K mainGlobals "_law_pair" = some (some (.ref f18))) (l18 : K.lookup f18 = some ⟨oc18, od18, .func (PySem.W.fnOf "_law_pair" "_law_pair" (defArgs st__law_pair) (defBody st__law_pair) (defScope st__law_pair) .none kV18 dc18 pm18 an18 cd18 ct18), sl18⟩) (c18 : PySem.W.codeIn K cd18 "_law_pair" = true) (k18 : PySem.W.keepIn K (.ref f18) = true)
    (a19_0 : PySem.W.nsIn K mainGlobals "_law_number" = some (some (.ref f19))) (l19 : K.lookup f19 = some ⟨oc19, od19, .func (PySem.W.fnOf "_law_number" "_law_number" (defArgs st__law_number) (defBody st__law_number) (defScope st__law_number) .none kV19 dc19 pm19 an19 cd19 ct19), sl19⟩) (c19 : PySem.W.codeIn K cd19 "_law_number" = true) (k19 : PySem.W.keepIn K (.ref f19) = true)
    (a20_0 : PySem.W.nsIn K mainGlobals "_law_products" = some (some (.ref f20))) (l20 : K.lookup f20 = some ⟨oc20, od20, .func (PySem.W.fnOf "_law_products" "_law_products" (defArgs st__law_products) (defBody st__law_products) (defScope st__law_products) .none kV20 dc20 pm20 an20 cd20 ct20), sl20⟩) (c20 : PySem.W.codeIn K cd20 "_law_products" = true) (k20 : PySem.W.keepIn K (.ref f20) = true)
    (a21_0 : PySem.W.nsIn K mainGlobals "_law_added" = some (some (.ref f21))) (l21 : K.lookup f21 = some ⟨oc21, od21, .func (PySem.W.fnOf "_law_added" "_law_added" (defArgs st__law_added) (defBody st__law_added) (defScope st__law_added) .none kV21 dc21 pm21 an21 cd21 ct21), sl21⟩) (c21 : PySem.W.codeIn K cd21 "_law_added" = true) (k21 : PySem.W.keepIn K (.ref f21) = true)
    (a22_0 : PySem.W.nsIn K mainGlobals "_law_parted_by" = some (some (.ref f22))) (l22 : K.lookup f22 = some ⟨oc22, od22, .func (PySem.W.fnOf "_law_parted_by" "_law_parted_by" (defArgs st__law_parted_by) (defBody st__law_parted_by) (defScope st__law_parted_by) .none kV22 dc22 pm22 an22 cd22 ct22), sl22⟩) (c22 : PySem.W.codeIn K cd22 "_law_parted_by" = true) (k22 : PySem.W.keepIn K (.ref f22) = true)
    (a23_0 : PySem.W.nsIn K mainGlobals "_law_pencil" = some (some (.ref f23))) (l23 : K.lookup f23 = some ⟨oc23, od23, .func (PySem.W.fnOf "_law_pencil" "_law_pencil" (defArgs st__law_pencil) (defBody st__law_pencil) (defScope st__law_pencil) .none kV23 dc23 pm23 an23 cd23 ct23), sl23⟩) (c23 : PySem.W.codeIn K cd23 "_law_pencil" = true) (k23 : PySem.W.keepIn K (.ref f23) = true)
    (a24_0 : PySem.W.nsIn K mainGlobals "_law_eight" = some (some (.ref f24))) (l24 : K.lookup f24 = some ⟨oc24, od24, .func (PySem.W.fnOf "_law_eight" "_law_eight" (defArgs st__law_eight) (defBody st__law_eight) (defScope st__law_eight) .none kV24 dc24 pm24 an24 cd24 ct24), sl24⟩) (c24 : PySem.W.codeIn K cd24 "_law_eight" = true) (k24 : PySem.W.keepIn K (.ref f24) = true)
    (a25_0 : PySem.W.nsIn K mainGlobals "_law_left" = some (some (.ref f25))) (l25 : K.lookup f25 = some ⟨oc25, od25, .func (PySem.W.fnOf "_law_left" "_law_left" (defArgs st__law_left) (defBody st__law_left) (defScope st__law_left) .none kV25 dc25 pm25 an25 cd25 ct25), sl25⟩) (c25 : PySem.W.codeIn K cd25 "_law_left" = true) (k25 : PySem.W.keepIn K (.ref f25) = true)
    (a26_0 : PySem.W.nsIn K mainGlobals "_law_crosswise" = some (some (.ref f26))) (l26 : K.lookup f26 = some ⟨oc26, od26, .func (PySem.W.fnOf "_law_crosswise" "_law_crosswise" (defArgs st__law_crosswise) (defBody st__law_crosswise) (defScope st__law_crosswise) .none kV26 dc26 pm26 an26 cd26 ct26), sl26⟩) (c26 : PySem.W.codeIn K cd26 "_law_crosswise" = true) (k26 : PySem.W.keepIn K (.ref f26) = true)
    (a27_0 : PySem.W.nsIn K mainGlobals "_law_root" = some (some (.ref f27))) (l27 : K.lookup f27 = some ⟨oc27, od27, .func (PySem.W.fnOf "_law_root" "_law_root" (defArgs st__law_root) (defBody st__law_root) (defScope st__law_root) .none kV27 dc27 pm27 an27 cd27 ct27), sl27⟩) (c27 : PySem.W.codeIn K cd27 "_law_root" = true) (k27 : PySem.W.keepIn K (.ref f27) = true)
    (a28_0 : PySem.W.nsIn K mainGlobals "_law_value" = some (some (.ref f28))) (l28 : K.lookup f28 = some ⟨oc28, od28, .func (PySem.W.fnOf "_law_value" "_law_value" (defArgs st__law_value) (defBody st__law_value) (defScope st__law_value) .none kV28 dc28 pm28 an28 cd28 ct28), sl28⟩) (c28 : PySem.W.codeIn K cd28 "_law_value" = true) (k28 : PySem.W.keepIn K (.ref f28) = true)
    (a29_0 : PySem.W.nsIn K mainGlobals "_law_many" = some (some (.ref f29))) (l29 : K.lookup f29 = some ⟨oc29, od29, .func (PySem.W.fnOf "_law_many" "_law_many" (defArgs st__law_many) (defBody st__law_many) (defScope st__law_many) .none kV29 dc29 pm29 an29 cd29 ct29), sl29⟩) (c29 : PySem.W.codeIn K cd29 "_law_many" = true) (k29 : PySem.W.keepIn K (.ref f29) = true)
    (a30_0 : PySem.W.nsIn K mainGlobals "_law_list" = some (some (.ref f30))) (l30 : K.lookup f30 = some ⟨oc30, od30, .func (PySem.W.fnOf "_law_list" "_law_list" (defArgs st__law_list) (defBody st__law_list) (defScope st__law_list) .none kV30 dc30 pm30 an30 cd30 ct30), sl30⟩) (c30 : PySem.W.codeIn K cd30 "_law_list" = true) (k30 : PySem.W.keepIn K (.ref f30) = true)
    (a31_0 : PySem.W.nsIn K mainGlobals "law" = some (some (.ref f31))) (l31 : K.lookup f31 = some ⟨oc31, od31, .func (PySem.W.fnOf "law" "law" (defArgs st_law) (defBody st_law) (defScope st_law) .none kV31 dc31 pm31 an31 cd31 ct31), sl31⟩) (c31 : PySem.W.codeIn K cd31 "law" = true) (k31 : PySem.W.keepIn K (.ref f31) = true)
    (z0 : PySem.W.nsIn K mainGlobals "abs" = some none)
    (z1 : PySem.W.nsIn K mainGlobals "all" = some none)
    (z2 : PySem.W.nsIn K mainGlobals "any" = some none)
    (z3 : PySem.W.nsIn K mainGlobals "bool" = some none)
    (z4 : PySem.W.nsIn K mainGlobals "enumerate" = some none)
    (z5 : PySem.W.nsIn K mainGlobals "int" = some none)
    (z6 : PySem.W.nsIn K mainGlobals "isinstance" = some none)
    (z7 : PySem.W.nsIn K mainGlobals "len" = some none)
    (z8 : PySem.W.nsIn K mainGlobals "list" = some none)
    (z9 : PySem.W.nsIn K mainGlobals "min" = some none)
    (z10 : PySem.W.nsIn K mainGlobals "range" = some none)
    (z11 : PySem.W.nsIn K mainGlobals "tuple" = some none)
    (z12 : PySem.W.nsIn K mainGlobals "zip" = some none)
    {p0_0 : Addr} {tk0_1 tk0_2 : Tok} {n0_0 : Nat} {dd0_0 : Option Addr} {ss0_0 : Array (Option Value)} (g0 : PySem.W.nsIn K mainGlobals "FAR" = some (some (.ref p0_0))) (q0_0 : K.lookup p0_0 = some ⟨.type "tuple", dd0_0, .seq #[.int (1) tk0_1, .int (0) tk0_2] n0_0, ss0_0⟩)
    {tk1_1 : Tok} (g1 : PySem.W.nsIn K mainGlobals "BOUND" = some (some (.int (100000000000000000000) tk1_1)))
    (xx : excTab K rs qs = true)
    : ∃ fd : FuncData, (∀ (s : Shared) (v : Value), BindsTo s fd ⟨[v], []⟩ [("_law_script", v)]) ∧ ∀ (base : Heap), K.In base → base.Ns mainGlobals mg → FnOk P w K mg base (L2N.CX P w) 33 fa fd ["_law_script"] (spD K (ctOf K) 1 fn_law) := by
  have e := hfa.symm.trans (PySem.W.mg_of X G a31_0)
  cases e
  obtain ⟨xe, xa⟩ := excs_of X G xx
  have tp : ∀ fns hf, Top K mg ⟨fns, cons, bis, hf, rs, qs⟩ := fun fns hf => ⟨xe, xa, fun x hx => by
    simp only [bis, List.mem_cons, List.not_mem_nil, or_false] at hx
    rcases hx with rfl | rfl | rfl | rfl | rfl | rfl | rfl | rfl | rfl | rfl | rfl | rfl | rfl
    · exact PySem.W.mg_none_of X G z0
    · exact PySem.W.mg_none_of X G z1
    · exact PySem.W.mg_none_of X G z2
    · exact PySem.W.mg_none_of X G z3
    · exact PySem.W.mg_none_of X G z4
    · exact PySem.W.mg_none_of X G z5
    · exact PySem.W.mg_none_of X G z6
    · exact PySem.W.mg_none_of X G z7
    · exact PySem.W.mg_none_of X G z8
    · exact PySem.W.mg_none_of X G z9
    · exact PySem.W.mg_none_of X G z10
    · exact PySem.W.mg_none_of X G z11
    · exact PySem.W.mg_none_of X G z12
    , fun k p e => by
    match k, e with
    | 0, e =>
      cases e
      exact ⟨_, .ref p0_0, PySem.W.mg_of X G g0, rfl, fun H => .tup (xs := [V.int (1), V.int (0)]) (.inr ⟨_, _, _, q0_0, rfl, rfl, (show (2 : Nat) ≤ sizeLine by decide), (.cons ⟨_, rfl⟩ (.cons ⟨_, rfl⟩ .nil))⟩) (.cons (.int _) (.cons (.int _) .nil))⟩
    | 1, e =>
      cases e
      exact ⟨_, .int 100000000000000000000, PySem.W.mg_of X G g1, ⟨_, rfl⟩, fun H => .int _⟩
    | k + 2, e => cases e⟩
  have F0 := fun_mk (st := st_is_whole) l0 c0 k0
  have b0 := F0.binds (ps := ["thing"]) fun _ _ _ _ _ _ us hl => match us, hl with | [_], _ => rfl
  have F1 := fun_mk (st := st_divisor) l1 c1 k1
  have b1 := F1.binds (ps := ["one", "other"]) fun _ _ _ _ _ _ us hl => match us, hl with | [_, _], _ => rfl
  have F2 := fun_mk (st := st_value) l2 c2 k2
  have b2 := F2.binds (ps := ["top", "bottom"]) fun _ _ _ _ _ _ us hl => match us, hl with | [_, _], _ => rfl
  have F3 := fun_mk (st := st_under) l3 c3 k3
  have b3 := F3.binds (ps := ["one", "other"]) fun _ _ _ _ _ _ us hl => match us, hl with | [_, _], _ => rfl
  have F4 := fun_mk (st := st_is_eight) l4 c4 k4
  have b4 := F4.binds (ps := ["thing"]) fun _ _ _ _ _ _ us hl => match us, hl with | [_], _ => rfl
  have F5 := fun_mk (st := st_look_at_eight) l5 c5 k5
  have b5 := F5.binds (ps := ["thing"]) fun _ _ _ _ _ _ us hl => match us, hl with | [_], _ => rfl
  have F6 := fun_mk (st := st_measure_of) l6 c6 k6
  have b6 := F6.binds (ps := ["numbers"]) fun _ _ _ _ _ _ us hl => match us, hl with | [_], _ => rfl
  have F7 := fun_mk (st := st_measure) l7 c7 k7
  have b7 := F7.binds (ps := ["eight"]) fun _ _ _ _ _ _ us hl => match us, hl with | [_], _ => rfl
  have F8 := fun_mk (st := st_whole_root) l8 c8 k8
  have b8 := F8.binds (ps := ["number"]) fun _ _ _ _ _ _ us hl => match us, hl with | [_], _ => rfl
  have F9 := fun_mk (st := st_sides_of) l9 c9 k9
  have b9 := F9.binds (ps := ["numbers", "which"]) fun _ _ _ _ _ _ us hl => match us, hl with | [_, _], _ => rfl
  have F10 := fun_mk (st := st_quadratic_of) l10 c10 k10
  have b10 := F10.binds (ps := ["numbers", "which"]) fun _ _ _ _ _ _ us hl => match us, hl with | [_, _], _ => rfl
  have F11 := fun_mk (st := st_without_square) l11 c11 k11
  have b11 := F11.binds (ps := ["b", "c"]) fun _ _ _ _ _ _ us hl => match us, hl with | [_, _], _ => rfl
  have F12 := fun_mk (st := st_roots_of) l12 c12 k12
  have b12 := F12.binds (ps := ["numbers", "which"]) fun _ _ _ _ _ _ us hl => match us, hl with | [_, _], _ => rfl
  have F13 := fun_mk (st := st_roots) l13 c13 k13
  have b13 := F13.binds (ps := ["eight", "which"]) fun _ _ _ _ _ _ us hl => match us, hl with | [_, _], _ => rfl
  have F14 := fun_mk (st := st__law_cell_at) l14 c14 k14
  have b14 := F14.binds (ps := ["_law_script", "_law_k"]) fun _ _ _ _ _ _ us hl => match us, hl with | [_, _], _ => rfl
  have F15 := fun_mk (st := st__law_whole) l15 c15 k15
  have b15 := F15.binds (ps := ["_law_found"]) fun _ _ _ _ _ _ us hl => match us, hl with | [_], _ => rfl
  have F16 := fun_mk (st := st__law_drawn) l16 c16 k16
  have b16 := F16.binds (ps := ["_law_cell", "_law_k"]) fun _ _ _ _ _ _ us hl => match us, hl with | [_, _], _ => rfl
  have F17 := fun_mk (st := st__law_take) l17 c17 k17
  have b17 := F17.binds (ps := ["_law_drawn_here", "_law_many_here"]) fun _ _ _ _ _ _ us hl => match us, hl with | [_, _], _ => rfl
  have F18 := fun_mk (st := st__law_pair) l18 c18 k18
  have b18 := F18.binds (ps := ["_law_drawn_here", "_law_most"]) fun _ _ _ _ _ _ us hl => match us, hl with | [_, _], _ => rfl
  have F19 := fun_mk (st := st__law_number) l19 c19 k19
  have b19 := F19.binds (ps := ["_law_drawn_here", "_law_most"]) fun _ _ _ _ _ _ us hl => match us, hl with | [_, _], _ => rfl
  have F20 := fun_mk (st := st__law_products) l20 c20 k20
  have b20 := F20.binds (ps := ["_law_pairs"]) fun _ _ _ _ _ _ us hl => match us, hl with | [_], _ => rfl
  have F21 := fun_mk (st := st__law_added) l21 c21 k21
  have b21 := F21.binds (ps := ["_law_some", "_law_more"]) fun _ _ _ _ _ _ us hl => match us, hl with | [_, _], _ => rfl
  have F22 := fun_mk (st := st__law_parted_by) l22 c22 k22
  have b22 := F22.binds (ps := ["_law_drawn_here", "_law_most", "_law_which"]) fun _ _ _ _ _ _ us hl => match us, hl with | [_, _, _], _ => rfl
  have F23 := fun_mk (st := st__law_pencil) l23 c23 k23
  have b23 := F23.binds (ps := ["_law_drawn_here", "_law_most"]) fun _ _ _ _ _ _ us hl => match us, hl with | [_, _], _ => rfl
  have F24 := fun_mk (st := st__law_eight) l24 c24 k24
  have b24 := F24.binds (ps := ["_law_drawn_here", "_law_far"]) fun _ _ _ _ _ _ us hl => match us, hl with | [_, _], _ => rfl
  have F25 := fun_mk (st := st__law_left) l25 c25 k25
  have b25 := F25.binds (ps := ["_law_eight_here", "_law_which", "_law_one"]) fun _ _ _ _ _ _ us hl => match us, hl with | [_, _, _], _ => rfl
  have F26 := fun_mk (st := st__law_crosswise) l26 c26 k26
  have b26 := F26.binds (ps := ["_law_four"]) fun _ _ _ _ _ _ us hl => match us, hl with | [_], _ => rfl
  have F27 := fun_mk (st := st__law_root) l27 c27 k27
  have b27 := F27.binds (ps := ["_law_number_here"]) fun _ _ _ _ _ _ us hl => match us, hl with | [_], _ => rfl
  have F28 := fun_mk (st := st__law_value) l28 c28 k28
  have b28 := F28.binds (ps := ["_law_one"]) fun _ _ _ _ _ _ us hl => match us, hl with | [_], _ => rfl
  have F29 := fun_mk (st := st__law_many) l29 c29 k29
  have b29 := F29.binds (ps := ["_law_whole_here"]) fun _ _ _ _ _ _ us hl => match us, hl with | [_], _ => rfl
  have F30 := fun_mk (st := st__law_list) l30 c30 k30
  have b30 := F30.binds (ps := ["_law_eight_here", "_law_which", "_law_found", "_law_many_here"]) fun _ _ _ _ _ _ us hl => match us, hl with | [_, _, _, _], _ => rfl
  have F31 := fun_mk (st := st_law) l31 c31 k31
  have b31 := F31.binds (ps := ["_law_script"]) fun _ _ _ _ _ _ us hl => match us, hl with | [_], _ => rfl
  refine ⟨PySem.W.fnOf "law" "law" (defArgs st_law) (defBody st_law) (defScope st_law) .none kV31 dc31 pm31 an31 cd31 ct31, fun s v => .of_eq rfl, fun base _ _ => ?_⟩
  have rH : ∀ p ∈ hfns, ReadyAtH P w K mg base (ctOf K) 1 p := (fun p h => by cases h)
  have r0 : ∀ p ∈ fns_0, ReadyAt P w K mg base (ctOf K) 1 p := fun p h => by cases h
  have r1 : ∀ p ∈ fns_1, ReadyAt P w K mg base (ctOf K) 2 p := ready_as F0 (PySem.W.mg_of X G a0_0) b0 (tp fns_0 hfns) rfl r0 (fun p h => (rH p h).up (by decide)) ck_is_whole (ready_up r0)
  have r2 : ∀ p ∈ fns_2, ReadyAt P w K mg base (ctOf K) 3 p := ready_as F1 (PySem.W.mg_of X G a1_0) b1 (tp fns_1 hfns) rfl r1 (fun p h => (rH p h).up (by decide)) ck_divisor (ready_up r1)
  have r3 : ∀ p ∈ fns_3, ReadyAt P w K mg base (ctOf K) 4 p := ready_as F2 (PySem.W.mg_of X G a2_0) b2 (tp fns_2 hfns) rfl r2 (fun p h => (rH p h).up (by decide)) ck_value (ready_up r2)
  have r4 : ∀ p ∈ fns_4, ReadyAt P w K mg base (ctOf K) 5 p := ready_as F3 (PySem.W.mg_of X G a3_0) b3 (tp fns_3 hfns) rfl r3 (fun p h => (rH p h).up (by decide)) ck_under (ready_up r3)
  have r5 : ∀ p ∈ fns_5, ReadyAt P w K mg base (ctOf K) 6 p := ready_as F4 (PySem.W.mg_of X G a4_0) b4 (tp fns_4 hfns) rfl r4 (fun p h => (rH p h).up (by decide)) ck_is_eight (ready_up r4)
  have r6 : ∀ p ∈ fns_6, ReadyAt P w K mg base (ctOf K) 7 p := ready_as F5 (PySem.W.mg_of X G a5_0) b5 (tp fns_5 hfns) rfl r5 (fun p h => (rH p h).up (by decide)) ck_look_at_eight (ready_up r5)
  have r7 : ∀ p ∈ fns_7, ReadyAt P w K mg base (ctOf K) 8 p := ready_as F6 (PySem.W.mg_of X G a6_0) b6 (tp fns_6 hfns) rfl r6 (fun p h => (rH p h).up (by decide)) ck_measure_of (ready_up r6)
  have r8 : ∀ p ∈ fns_8, ReadyAt P w K mg base (ctOf K) 9 p := ready_as F7 (PySem.W.mg_of X G a7_0) b7 (tp fns_7 hfns) rfl r7 (fun p h => (rH p h).up (by decide)) ck_measure (ready_up r7)
  have r9 : ∀ p ∈ fns_9, ReadyAt P w K mg base (ctOf K) 10 p := ready_as F8 (PySem.W.mg_of X G a8_0) b8 (tp fns_8 hfns) rfl r8 (fun p h => (rH p h).up (by decide)) ck_whole_root (ready_up r8)
  have r10 : ∀ p ∈ fns_10, ReadyAt P w K mg base (ctOf K) 11 p := ready_as F9 (PySem.W.mg_of X G a9_0) b9 (tp fns_9 hfns) rfl r9 (fun p h => (rH p h).up (by decide)) ck_sides_of (ready_up r9)
  have r11 : ∀ p ∈ fns_11, ReadyAt P w K mg base (ctOf K) 12 p := ready_as F10 (PySem.W.mg_of X G a10_0) b10 (tp fns_10 hfns) rfl r10 (fun p h => (rH p h).up (by decide)) ck_quadratic_of (ready_up r10)
  have r12 : ∀ p ∈ fns_12, ReadyAt P w K mg base (ctOf K) 13 p := ready_as F11 (PySem.W.mg_of X G a11_0) b11 (tp fns_11 hfns) rfl r11 (fun p h => (rH p h).up (by decide)) ck_without_square (ready_up r11)
  have r13 : ∀ p ∈ fns_13, ReadyAt P w K mg base (ctOf K) 14 p := ready_as F12 (PySem.W.mg_of X G a12_0) b12 (tp fns_12 hfns) rfl r12 (fun p h => (rH p h).up (by decide)) ck_roots_of (ready_up r12)
  have r14 : ∀ p ∈ fns_14, ReadyAt P w K mg base (ctOf K) 15 p := ready_as F13 (PySem.W.mg_of X G a13_0) b13 (tp fns_13 hfns) rfl r13 (fun p h => (rH p h).up (by decide)) ck_roots (ready_up r13)
  have r15 : ∀ p ∈ fns_15, ReadyAt P w K mg base (ctOf K) 16 p := ready_as F14 (PySem.W.mg_of X G a14_0) b14 (tp fns_14 hfns) rfl r14 (fun p h => (rH p h).up (by decide)) ck__law_cell_at (ready_up r14)
  have r16 : ∀ p ∈ fns_16, ReadyAt P w K mg base (ctOf K) 17 p := ready_as F15 (PySem.W.mg_of X G a15_0) b15 (tp fns_15 hfns) rfl r15 (fun p h => (rH p h).up (by decide)) ck__law_whole (ready_up r15)
  have r17 : ∀ p ∈ fns_17, ReadyAt P w K mg base (ctOf K) 18 p := ready_as F16 (PySem.W.mg_of X G a16_0) b16 (tp fns_16 hfns) rfl r16 (fun p h => (rH p h).up (by decide)) ck__law_drawn (ready_up r16)
  have r18 : ∀ p ∈ fns_18, ReadyAt P w K mg base (ctOf K) 19 p := ready_consP F17 (PySem.W.mg_of X G a17_0) b17 (tp fns_17 hfns) rfl r17 (fun p h => (rH p h).up (by decide)) ck__law_take (ready_up r17)
  have r19 : ∀ p ∈ fns_19, ReadyAt P w K mg base (ctOf K) 20 p := ready_consP F18 (PySem.W.mg_of X G a18_0) b18 (tp fns_18 hfns) rfl r18 (fun p h => (rH p h).up (by decide)) ck__law_pair (ready_up r18)
  have r20 : ∀ p ∈ fns_20, ReadyAt P w K mg base (ctOf K) 21 p := ready_consP F19 (PySem.W.mg_of X G a19_0) b19 (tp fns_19 hfns) rfl r19 (fun p h => (rH p h).up (by decide)) ck__law_number (ready_up r19)
  have r21 : ∀ p ∈ fns_21, ReadyAt P w K mg base (ctOf K) 22 p := ready_as F20 (PySem.W.mg_of X G a20_0) b20 (tp fns_20 hfns) rfl r20 (fun p h => (rH p h).up (by decide)) ck__law_products (ready_up r20)
  have r22 : ∀ p ∈ fns_22, ReadyAt P w K mg base (ctOf K) 23 p := ready_as F21 (PySem.W.mg_of X G a21_0) b21 (tp fns_21 hfns) rfl r21 (fun p h => (rH p h).up (by decide)) ck__law_added (ready_up r21)
  have r23 : ∀ p ∈ fns_23, ReadyAt P w K mg base (ctOf K) 24 p := ready_consP F22 (PySem.W.mg_of X G a22_0) b22 (tp fns_22 hfns) rfl r22 (fun p h => (rH p h).up (by decide)) ck__law_parted_by (ready_up r22)
  have r24 : ∀ p ∈ fns_24, ReadyAt P w K mg base (ctOf K) 25 p := ready_consP F23 (PySem.W.mg_of X G a23_0) b23 (tp fns_23 hfns) rfl r23 (fun p h => (rH p h).up (by decide)) ck__law_pencil (ready_up r23)
  have r25 : ∀ p ∈ fns_25, ReadyAt P w K mg base (ctOf K) 26 p := ready_consP F24 (PySem.W.mg_of X G a24_0) b24 (tp fns_24 hfns) rfl r24 (fun p h => (rH p h).up (by decide)) ck__law_eight (ready_up r24)
  have r26 : ∀ p ∈ fns_26, ReadyAt P w K mg base (ctOf K) 27 p := ready_as F25 (PySem.W.mg_of X G a25_0) b25 (tp fns_25 hfns) rfl r25 (fun p h => (rH p h).up (by decide)) ck__law_left (ready_up r25)
  have r27 : ∀ p ∈ fns_27, ReadyAt P w K mg base (ctOf K) 28 p := ready_as F26 (PySem.W.mg_of X G a26_0) b26 (tp fns_26 hfns) rfl r26 (fun p h => (rH p h).up (by decide)) ck__law_crosswise (ready_up r26)
  have r28 : ∀ p ∈ fns_28, ReadyAt P w K mg base (ctOf K) 29 p := ready_as F27 (PySem.W.mg_of X G a27_0) b27 (tp fns_27 hfns) rfl r27 (fun p h => (rH p h).up (by decide)) ck__law_root (ready_up r27)
  have r29 : ∀ p ∈ fns_29, ReadyAt P w K mg base (ctOf K) 30 p := ready_as F28 (PySem.W.mg_of X G a28_0) b28 (tp fns_28 hfns) rfl r28 (fun p h => (rH p h).up (by decide)) ck__law_value (ready_up r28)
  have r30 : ∀ p ∈ fns_30, ReadyAt P w K mg base (ctOf K) 31 p := ready_as F29 (PySem.W.mg_of X G a29_0) b29 (tp fns_29 hfns) rfl r29 (fun p h => (rH p h).up (by decide)) ck__law_many (ready_up r29)
  have r31 : ∀ p ∈ fns_31, ReadyAt P w K mg base (ctOf K) 32 p := ready_as F30 (PySem.W.mg_of X G a30_0) b30 (tp fns_30 hfns) rfl r30 (fun p h => (rH p h).up (by decide)) ck__law_list (ready_up r30)
  exact def_ok F31 (tp fns_31 hfns) rfl r31 (fun p h => (rH p h).up (by decide)) ck_law
-- BEGIN
theorem whole_i (a : Int) : fn_is_whole [.int a] = .ok (.bl true) := by
  rw [fn_is_whole_eq]
  simp_arith [sh_is_whole, Ty.s]
-- fuel_divisor := fun δ => match δ[1]? with | some (Sl.va (D.int b)) => b.natAbs + 1 | _ => 0
theorem divisor_eq (a b : Int) : fn_divisor [.int a, .int b] = .ok (.int (Int.gcd a b)) := by
  rw [fn_divisor_eq]
  obtain ⟨g, e, q⟩ := gcd_loop (b.natAbs + 1) a b (Nat.lt_succ_self _)
  have e : sWhl [] fuel_divisor gcdC gcdB [.va (.int a), .va (.int b)] = .nx [.va (.int g), .va (.int 0)] := e
  show endD (bindS (sWhl [] fuel_divisor gcdC gcdB [.va (.int a), .va (.int b)]) _) = _
  rw [e, ← q]
  simp_arith []
  split <;> omega
theorem value_eq (a b : Int) (h : b ≠ 0) (hb : B 8000 b) : fn_value [.int a, .int b] = .ok (fr (Rat.divInt a b)) := by
  rw [fn_value_eq]
  unfold fr
  obtain ⟨e1, e2⟩ := fr_divInt (a := a) h
  have h1 : byQ a b ≠ 0 := byQ_ne h
  have h2 : B 8999 (byQ a b) := (byQ_B h hb).mono (by decide)
  have wa := whole_i a
  have wb := whole_i b
  have hc : ¬(a = 0 ∧ b = 0) := fun e => h e.2
  rw [e1, e2]
  by_cases hn : b < 0
  · have e : byQ a b = -(Int.gcd a b : Int) := if_pos hn
    have e' : 0 - (Int.gcd a b : Int) = byQ a b := by omega
    generalize byQ a b = y at *
    simp_arith [sh_value, divisor_eq, wa, wb, hn, e', fdivD_i, h]
  · have e : byQ a b = (Int.gcd a b : Int) := if_neg hn
    have ed := divisor_eq a b
    rw [← e] at ed
    have h0 : 0 ≤ byQ a b := by omega
    rw [Int.fdiv_eq_ediv_of_nonneg _ h0, Int.fdiv_eq_ediv_of_nonneg _ h0]
    generalize byQ a b = y at *
    simp_arith [sh_value, ed, wa, wb, hn, h]
theorem under_eq (p q : Rat) (hp : BR 2000 p) (hq : BR 2000 q) : fn_under [fr p, fr q] = .ok (.bl (decide (p < q))) := by
  rw [fn_under_eq]
  obtain ⟨a1, a2⟩ := hp
  obtain ⟨b1, b2⟩ := hq
  show endD (sh_under [.va (.tup [.int p.num, .int p.den]), .va (.tup [.int q.num, .int q.den])]) = _
  rw [show decide (p < q) = decide (p.num * q.den < q.num * p.den) from decide_eq_decide.mpr (Rat.lt_iff p q)]
  simp_arith [sh_under]
theorem cell_ex (ns : List Int) (k : Int) (hk : 0 ≤ k) : ∃ c, fn__law_cell_at [.lst (ns.map D.int), .int k] = .ok (.int c) := by
  rw [fn__law_cell_at_eq]
  obtain ⟨n, rfl⟩ := Int.eq_ofNat_of_zero_le hk
  by_cases h : (n : Int) < ns.length
  · have h' : n < ns.length := by omega
    simp_arith [sh__law_cell_at, h, atI_n, h']
  · simp_arith [sh__law_cell_at, h]
theorem take_eq (v m : Int) (hm : 0 < m) (bm : B 8999 m) : fn__law_take [.lst [.int v], .int m] = .okp (.int (v % m)) (.lst [.int (v / m)]) := by
  rw [fn__law_take_eq]
  have h0 : m ≠ 0 := by omega
  simp_arith [sh__law_take, h0]
theorem drawn_loop (c k : Int) (h0 : 0 ≤ k) (h1 : k < 64) : ∀ (n m : Nat) (lo one found : Int), n + m ≤ 28 → 0 ≤ lo → lo + n ≤ 28 → 0 ≤ one → one < 2147483647 → B (40 * m) found →
    ∃ one' found', forF [4] (Tg.var 4).st lb1__law_drawn (rngD lo n) [.va (.int c), .va (.int k), .va (.int one), .va (.int found), .no] = .nx [.va (.int c), .va (.int k), .va (.int one'), .va (.int found'), .no]
  | 0, m, lo, one, found, hn, hlo, hlo2, o0, o1, hf => ⟨one, found, rfl⟩
  | n + 1, m, lo, one, found, hn, hlo, hlo2, o0, o1, hf => by
    have kB : B 10 k := B.le 64 (by omega) (by omega) (by decide)
    have oB : B 40 one := B.le 2147483647 (by omega) (by omega) (by decide)
    have lB : B 10 lo := B.le 48 (by omega) (by omega) (by decide)
    have fB : B 2000 found := hf.mono (by omega)
    have step : ∃ one' found', lb1__law_drawn [.va (.int c), .va (.int k), .va (.int one), .va (.int found), .va (.int lo)] = .nx [.va (.int c), .va (.int k), .va (.int one'), .va (.int found'), .va (.int lo)] ∧ 0 ≤ one' ∧ one' < 2147483647 ∧ B (40 * (m + 1)) found' := by
      simp_arith [lb1__law_drawn]
      have b1 : B 38 ((one * one + 39373 * one + lo + k) % 2147483629) := B.le 2147483629 (by omega) (by omega) (by decide)
      have e31 : (2147483629 : Int).natAbs.log2 + 1 = 31 := by decide
      exact ⟨_, _, ⟨rfl, rfl⟩, by omega, by omega, (B.add (B.mul hf (B.lit 2147483629)) b1).mono (by rw [e31]; omega)⟩
    obtain ⟨one', found', e, o0', o1', hf'⟩ := step
    obtain ⟨one2, found2, e2⟩ := drawn_loop c k h0 h1 n (m + 1) (lo + 1) one' found' (by omega) (by omega) (by omega) o0' o1' hf'
    refine ⟨one2, found2, ?_⟩
    show forF [4] _ _ (.int lo :: rngD (lo + 1) n) _ = _
    rw [forF_step rfl e]
    exact e2
theorem drawn_ex (c k : Int) (h0 : 0 ≤ k) (h1 : k < 64) : ∃ v, fn__law_drawn [.int c, .int k] = .ow (.lst [.int v]) := by
  rw [fn__law_drawn_eq]
  by_cases h : 1000000000000000000 ≤ c
  · simp_arith [sh__law_drawn, h]
  · have kB : B 10 k := B.le 64 (by omega) (by omega) (by decide)
    simp_arith [sh__law_drawn, h, sFor_, rngK_1, kFor_ok]
    obtain ⟨one, found, e⟩ := drawn_loop c k h0 h1 28 0 0 ((c % 1000000007 + 7919 * k + 1) * 48271 % 2147483647) 0 (by omega) (by omega) (by omega) (by omega) (by omega) (B.le 0 (by omega) (by omega) (by decide))
    rw [e]
    simp_arith []
def R (m x : Int) : Prop := -m ≤ x ∧ x ≤ m
theorem R.b {m x : Int} {n : Nat} (h : R m x) (l : m < (2 ^ n : Nat)) : Z.B n x := by
  unfold R at h
  unfold Z.B
  omega
theorem R.add {m n x y : Int} (h : R m x) (k : R n y) : R (m + n) (x + y) := by unfold R at *; omega
theorem R.mul {m n x y : Int} (h : R m x) (k : R n y) : R (m * n) (x * y) := by
  have a : x.natAbs ≤ m.toNat := by unfold R at h; omega
  have b : y.natAbs ≤ n.toNat := by unfold R at k; omega
  have c := Nat.mul_le_mul a b
  rw [← Int.natAbs_mul] at c
  have m0 : 0 ≤ m := by unfold R at h; omega
  have n0 : 0 ≤ n := by unfold R at k; omega
  have e : ((m.toNat * n.toNat : Nat) : Int) = m * n := by rw [Int.natCast_mul, Int.toNat_of_nonneg m0, Int.toNat_of_nonneg n0]
  unfold R
  omega
theorem R.mono {m n x : Int} (h : R m x) (l : m ≤ n) : R n x := by unfold R at *; omega
theorem tk_ex (v most : Int) (h0 : 0 < most) (h1 : most ≤ 10000000000000000000) : ∃ x t : Int, fn__law_take [.lst [.int v], .int (2 * most + 1)] = .okp (.int x) (.lst [.int t]) ∧ R most (x - most) := by
  have b : B 8999 (2 * most + 1) := B.mono (n := 80) (B.le 30000000000000000000 (by omega) (by omega) (by decide)) (by decide)
  refine ⟨_, _, take_eq v (2 * most + 1) (by omega) b, ?_⟩
  have a1 := Int.emod_nonneg v (show 2 * most + 1 ≠ 0 by omega)
  have a2 := Int.emod_lt_of_pos v (show 0 < 2 * most + 1 by omega)
  unfold R
  omega
theorem R.sub {m n x y : Int} (h : R m x) (k : R n y) : R (m + n) (x - y) := by unfold R at *; omega
theorem R.fdiv {m x : Int} (g : Int) (h : R m x) : R m (x.fdiv g) := by
  have := fdiv_natAbs x g
  unfold R at *
  omega
def det (a b c : V3) : Int := V3.dt (V3.cr a b) c
/-- the undivided numbers of three scales -/
def eq8 (p1 q1 p2 q2 p3 q3 : V3) : List Int := [det p1 p2 p3, det p1 p2 q3, det p1 q2 p3, det p1 q2 q3, det q1 p2 p3, det q1 p2 q3, det q1 q2 p3, det q1 q2 q3]
theorem eq1_refl : ∀ (n : Nat) (d : D), shp n d = true → eq1 d d = true := by
  have all : ∀ (n : Nat), (∀ d, shp n d = true → eq1 d d = true) → ∀ ds : List D, shps n ds = true → eqs ds ds = true := fun n h ds => by
    induction ds with
    | nil => intro _; exact eqs_nn
    | cons d ds ih =>
      intro hs
      rw [shps_c, Bool.and_eq_true] at hs
      rw [eqs_cc, h d hs.1, ih hs.2]
      rfl
  intro n
  induction n with
  | zero =>
    intro d h
    cases d with
    | int i => rw [eq1_ii, decide_eq_true rfl]
    | bl b => rw [eq1_bb, decide_eq_true rfl]
    | str x => rw [eq1_ss]; simp
    | non => exact eq1_nn
    | tup a => unfold shp at h; cases h
    | lst a => unfold shp at h; cases h
    | dic _ _ => unfold shp at h; cases h
    | exc _ => unfold shp at h; cases h
  | succ n ih =>
    intro d h
    cases d with
    | int i => rw [eq1_ii, decide_eq_true rfl]
    | bl b => rw [eq1_bb, decide_eq_true rfl]
    | str x => rw [eq1_ss]; simp
    | non => exact eq1_nn
    | tup a => rw [shp_t] at h; rw [eq1_tt]; exact all n ih a h
    | lst a => rw [shp_l] at h; rw [eq1_ll]; exact all n ih a h
    | dic _ _ => unfold shp at h; cases h
    | exc _ => unfold shp at h; cases h
theorem cop_eq_refl {d : D} (h : shp 64 d = true) : COp.fn .eq d d = some (.bl true) := by rw [cop_eq (eqD_shp h h), eq1_refl 64 d h]
theorem cop_ne_refl {d : D} (h : shp 64 d = true) : COp.fn .ne d d = some (.bl false) := by rw [cop_ne (eqD_shp h h), eq1_refl 64 d h]; rfl
-- fuel_whole_root := fun _ => 1500
-- fuel_whole_root_2 := fun δ => match δ[1]? with | some (Sl.va (D.int b)) => b.natAbs + 1 | _ => 0
theorem root1 (n : Int) (h0 : 0 ≤ n) : ∀ (m : Nat) (f : Int), 0 < f → f * 2 ^ m ≤ 2 ^ 1499 → n < (f * 2 ^ m) * (f * 2 ^ m) → ∃ f', whileF [] lc1_whole_root lb1_whole_root (m + 1) [.va (.int n), .va (.int f), .no] = .nx [.va (.int n), .va (.int f'), .no] ∧ n < f' * f' ∧ 0 < f' ∧ B 1500 f' := by
  intro m
  have big : ∀ (m : Nat) (f : Int), 0 < f → f * 2 ^ m ≤ 2 ^ 1499 → B 1500 f := fun m f hf hl => by
    have p : (1 : Int) ≤ 2 ^ m := Int.pow_pos (by decide)
    have q : f * 1 ≤ f * 2 ^ m := Int.mul_le_mul_of_nonneg_left p (by omega)
    have r : (2 : Int) ^ 1499 < 2 ^ 1500 := by decide
    exact B.of (by omega) (by omega)
  induction m with
  | zero =>
    intro f hf hl hn
    have fB := big 0 f hf hl
    have e : f * 2 ^ 0 = f := by simp
    rw [e] at hn hl
    refine ⟨f, whileF_end ?_, hn, hf, fB⟩
    simp_arith [lc1_whole_root]
    exact hn
  | succ m ih =>
    intro f hf hl hn
    have fB := big (m + 1) f hf hl
    by_cases c : f * f ≤ n
    · have e : 2 * f * 2 ^ m = f * 2 ^ (m + 1) := by rw [Int.pow_succ]; grind
      obtain ⟨f', e1, e2, e3, e4⟩ := ih (2 * f) (by omega) (by rw [e]; exact hl) (by rw [e]; exact hn)
      refine ⟨f', ?_, e2, e3, e4⟩
      rw [whileF_step (δ1 := [.va (.int n), .va (.int f), .no]) (δ2 := [.va (.int n), .va (.int (2 * f)), .no]) ?_ ?_]
      · exact e1
      · simp_arith [lc1_whole_root, c]
      · simp_arith [lb1_whole_root]
    · refine ⟨f, whileF_end ?_, by omega, hf, fB⟩
      simp_arith [lc1_whole_root, c]
theorem newton (n a : Int) (ha : 0 < a) (hn : 0 ≤ n) : n < ((a + n / a) / 2 + 1) * ((a + n / a) / 2 + 1) := by
  have h1 : n < (n / a + 1) * a := Int.lt_mul_of_ediv_lt ha (by omega)
  have h3 : 0 ≤ n / a := Int.ediv_nonneg hn (by omega)
  generalize n / a = q at *
  have h2 : a + q + 1 ≤ 2 * ((a + q) / 2 + 1) := by omega
  generalize (a + q) / 2 + 1 = s at *
  have h4 : (a + q + 1) * (a + q + 1) ≤ (2 * s) * (2 * s) := Int.mul_le_mul h2 h2 (by omega) (by omega)
  have h5 : 4 * ((q + 1) * a) ≤ (a + q + 1) * (a + q + 1) := by
    have : 0 ≤ (a - (q + 1)) * (a - (q + 1)) := by
      rcases Int.le_total 0 (a - (q + 1)) with h | h
      · exact Int.mul_nonneg h h
      · exact Int.mul_nonneg_of_nonpos_of_nonpos h h
    grind
  have h6 : (2 * s) * (2 * s) = 4 * (s * s) := by grind
  omega
theorem root2 (n : Int) (h0 : 0 < n) : ∀ (m : Nat) (f : Int), f.natAbs < m → 0 < f → B 1500 f → n < (f + 1) * (f + 1) → ∃ f' l', whileF [] lc2_whole_root lb2_whole_root m [.va (.int n), .va (.int f), .va (.int ((f + n / f) / 2))] = .nx [.va (.int n), .va (.int f'), .va (.int l')] ∧ 0 < f' ∧ f' * f' ≤ n ∧ n < (f' + 1) * (f' + 1)
  | 0, f, hm, hf, fB, hn => absurd hm (Nat.not_lt_zero _)
  | m + 1, f, hm, hf, fB, hn => by
    have f0 : f ≠ 0 := by omega
    by_cases c : (f + n / f) / 2 < f
    · have h3 : 0 ≤ n / f := Int.ediv_nonneg (by omega) (by omega)
      have hl : 0 < (f + n / f) / 2 := by
        by_cases h1 : f = 1
        · subst h1
          rw [Int.ediv_one] at *
          omega
        · omega
      have lB : B 1500 ((f + n / f) / 2) := by unfold B at *; omega
      have nw := newton n f hf (by omega)
      generalize hg : (f + n / f) / 2 = g at *
      have g0 : g ≠ 0 := by omega
      have gB : B 8999 g := lB.mono (by decide)
      obtain ⟨f', l', e1, e2, e3, e4⟩ := root2 n h0 m g (by omega) hl lB nw
      refine ⟨f', l', ?_, e2, e3, e4⟩
      rw [whileF_step (δ1 := [.va (.int n), .va (.int f), .va (.int g)]) (δ2 := [.va (.int n), .va (.int g), .va (.int ((g + n / g) / 2))]) ?_ ?_]
      · exact e1
      · simp_arith [lc2_whole_root, c]
      · simp_arith [lb2_whole_root, g0, gB]
    · refine ⟨f, (f + n / f) / 2, whileF_end ?_, hf, ?_, hn⟩
      · simp_arith [lc2_whole_root, c]
      · have h1 : f ≤ n / f := by omega
        have h2 : n / f * f ≤ n := Int.ediv_mul_le n f0
        have h3 : f * f ≤ n / f * f := Int.mul_le_mul_of_nonneg_right h1 (by omega)
        omega
theorem sq_uniq (n a b : Int) (ha : 0 ≤ a) (hb : 0 ≤ b) (h1 : a * a ≤ n) (h2 : n < (a + 1) * (a + 1)) (h3 : b * b ≤ n) (h4 : n < (b + 1) * (b + 1)) : a = b := by
  rcases Int.lt_trichotomy a b with h | h | h
  · have : (a + 1) * (a + 1) ≤ b * b := Int.mul_le_mul (by omega) (by omega) (by omega) (by omega)
    omega
  · exact h
  · have : (b + 1) * (b + 1) ≤ a * a := Int.mul_le_mul (by omega) (by omega) (by omega) (by omega)
    omega
theorem root_eq (n r : Int) (h : 0 ≤ r) (hb : B 1400 r) (h1 : r * r ≤ n) (h2 : n < (r + 1) * (r + 1)) : fn_whole_root [.int n] = .ok (.int r) := by
  rw [fn_whole_root_eq]
  have hn0 : 0 ≤ n := by
    have := Int.mul_nonneg h h
    omega
  by_cases hn : n = 0
  · have : r = 0 := sq_uniq n r 0 h (by decide) h1 h2 (by omega) (by omega)
    subst this
    simp_arith [sh_whole_root, hn]
  · have hr : r + 1 ≤ 2 ^ 1400 := by
      unfold B at hb
      have e : ((2 ^ 1400 : Nat) : Int) = 2 ^ 1400 := by decide
      omega
    have hp : (2 : Int) ^ 1400 ≤ 1 * 2 ^ 1499 := by decide
    obtain ⟨f, e1, e2, e3, e4⟩ := root1 n hn0 1499 1 (by decide) (by decide) (by
      have : (r + 1) * (r + 1) ≤ (1 * 2 ^ 1499) * (1 * 2 ^ 1499) := Int.mul_le_mul (by omega) (by omega) (by omega) (by decide)
      exact Int.lt_of_lt_of_le h2 this)
    have f0 : f ≠ 0 := by omega
    have fB : B 8999 f := e4.mono (by decide)
    obtain ⟨g, l, g1, g2, g3, g4⟩ := root2 n (by omega) (f.natAbs + 1) f (Nat.lt_succ_self _) e3 e4 (by
      have : f * f ≤ (f + 1) * (f + 1) := Int.mul_le_mul (by omega) (by omega) (by omega) (by omega)
      omega)
    have hg : g = r := sq_uniq n g r (by omega) h g3 g4 h1 h2
    subst hg
    have w1 : sWhl [] fuel_whole_root lc1_whole_root lb1_whole_root [.va (.int n), .va (.int 1), .no] = .nx [.va (.int n), .va (.int f), .no] := e1
    have w2 : sWhl [] fuel_whole_root_2 lc2_whole_root lb2_whole_root [.va (.int n), .va (.int f), .va (.int ((f + n / f) / 2))] = .nx [.va (.int n), .va (.int g), .va (.int l)] := g1
    simp_arith [sh_whole_root, hn, w1, w2, f0, fB]
def ms (a b c d e f g h : Int) : Int := a * h * (a * h) + b * g * (b * g) + c * f * (c * f) + d * e * (d * e) - 2 * (a * h * (b * g)) - 2 * (a * h * (c * f)) - 2 * (a * h * (d * e)) - 2 * (b * g * (c * f)) - 2 * (b * g * (d * e)) - 2 * (c * f * (d * e)) + 4 * (a * d * f * g) + 4 * (b * c * e * h)
theorem bls_map (p : Int → Bool) : ∀ xs : List Int, blsOf (xs.map fun x => D.bl (p x)) = some (xs.map p)
  | [] => rfl
  | x :: xs => by rw [List.map_cons, blsOf, bls_map p xs]; rfl
theorem is8 (xs : List Int) (h8 : xs.length = 8) (hb : ∀ x ∈ xs, R 99999999999999999999 x) (hn : ∃ x ∈ xs, x ≠ 0) : fn_is_eight [.tup (xs.map D.int)] = .ok (.bl true) := by
  rw [fn_is_eight_eq]
  have w := whole_i
  have c1 : compF (Tg.var 1).st none ce1_is_eight [1] (xs.map D.int) [.va (.tup (xs.map D.int)), .no] = some (xs.map fun _ => D.bl true, [.va (.tup (xs.map D.int)), .no]) := by
    refine compF_mapI fun x _ => ⟨[.va (.tup (xs.map D.int)), .va (.int x)], rfl, [.va (.tup (xs.map D.int)), .va (.int x)], ?_, rfl⟩
    simp_arith [ce1_is_eight, w]
  have c2 : compF (Tg.var 1).st none ce2_is_eight [1] (xs.map D.int) [.va (.tup (xs.map D.int)), .no] = some (xs.map fun _ => D.bl true, [.va (.tup (xs.map D.int)), .no]) := by
    refine compF_mapI fun x hx => ⟨[.va (.tup (xs.map D.int)), .va (.int x)], rfl, [.va (.tup (xs.map D.int)), .va (.int x)], ?_, rfl⟩
    have r := hb x hx
    unfold R at r
    have ab : absL [.int x] = some (.int (x.natAbs : Nat)) := by rw [abs_i]; congr 2; split <;> omega
    have lt : (x.natAbs : Int) < 100000000000000000000 := by omega
    simp_arith [-abs_i, ce2_is_eight, ab, cv_BOUND, lt]
  have c3 : compF (Tg.var 1).st none ce3_is_eight [1] (xs.map D.int) [.va (.tup (xs.map D.int)), .no] = some (xs.map fun x => D.bl (!decide (x = 0)), [.va (.tup (xs.map D.int)), .no]) := by
    refine compF_mapI fun x _ => ⟨[.va (.tup (xs.map D.int)), .va (.int x)], rfl, [.va (.tup (xs.map D.int)), .va (.int x)], ?_, rfl⟩
    simp_arith [ce3_is_eight]
  have al : allL [.lst (xs.map fun _ => D.bl true)] = some (.bl true) := by
    show (blsOf (xs.map fun _ => D.bl true)).map (fun ns => D.bl (ns.all id)) = _
    rw [bls_map (fun _ => true)]
    simp
  have an : anyL [.lst (xs.map fun x => D.bl (!decide (x = 0)))] = some (.bl true) := by
    show (blsOf (xs.map fun x => D.bl (!decide (x = 0)))).map (fun ns => D.bl (ns.any id)) = _
    rw [bls_map (fun x => !decide (x = 0))]
    obtain ⟨x, hx, h0⟩ := hn
    have : (xs.map fun x => !decide (x = 0)).any id = true := List.any_eq_true.mpr ⟨true, List.mem_map.mpr ⟨x, hx, by simp [h0]⟩, rfl⟩
    rw [Option.map_some, this]
  have le : lenL [.tup (xs.map D.int)] = some (.int 8) := by
    show some (D.int ((xs.map D.int).length : Int)) = _
    rw [List.length_map, h8]
    rfl
  have sq : ∀ δ, seqK (.ok (.tup (xs.map D.int)) δ) = .ok (xs.map D.int) δ := fun _ => rfl
  have is : isiD "tuple" (.tup (xs.map D.int)) = some (.bl true) := rfl
  have hl : xs.length ≤ 1000000 := by omega
  clear hb hn
  generalize D.tup (xs.map D.int) = T at *
  simp_arith [sh_is_eight, sq, le, is, c1, c2, c3, al, an, hl, Ty.s]
theorem mof_eq (x0 x1 x2 x3 x4 x5 x6 x7 : Int) (b0 : B 70 x0) (b1 : B 70 x1) (b2 : B 70 x2) (b3 : B 70 x3) (b4 : B 70 x4) (b5 : B 70 x5) (b6 : B 70 x6) (b7 : B 70 x7) : fn_measure_of [.tup [.int x0, .int x1, .int x2, .int x3, .int x4, .int x5, .int x6, .int x7]] = .ok (.int (ms x0 x1 x2 x3 x4 x5 x6 x7)) := by
  rw [fn_measure_of_eq]
  simp_arith [sh_measure_of, lb1_measure_of, lb2_measure_of, sFor_, kFor_ok, rngK_1, rngD_0, rngD_s]
  unfold ms
  grind
theorem measure_eq (x0 x1 x2 x3 x4 x5 x6 x7 : Int) (hb : ∀ x ∈ [x0, x1, x2, x3, x4, x5, x6, x7], R 99999999999999999999 x) (hn : ∃ x ∈ [x0, x1, x2, x3, x4, x5, x6, x7], x ≠ 0) : fn_measure [.tup [.int x0, .int x1, .int x2, .int x3, .int x4, .int x5, .int x6, .int x7]] = .ok (.int (ms x0 x1 x2 x3 x4 x5 x6 x7)) := by
  rw [fn_measure_eq]
  have i8 : fn_is_eight [.tup [.int x0, .int x1, .int x2, .int x3, .int x4, .int x5, .int x6, .int x7]] = _ := is8 [x0, x1, x2, x3, x4, x5, x6, x7] rfl hb hn
  have q : ∀ x ∈ [x0, x1, x2, x3, x4, x5, x6, x7], B 70 x := fun x hx => (hb x hx).b (by decide)
  have mo := mof_eq x0 x1 x2 x3 x4 x5 x6 x7 (q _ (by simp)) (q _ (by simp)) (q _ (by simp)) (q _ (by simp)) (q _ (by simp)) (q _ (by simp)) (q _ (by simp)) (q _ (by simp))
  have lo : fn_look_at_eight [.tup [.int x0, .int x1, .int x2, .int x3, .int x4, .int x5, .int x6, .int x7]] = .ok .non := by
    rw [fn_look_at_eight_eq]
    generalize D.tup [.int x0, .int x1, .int x2, .int x3, .int x4, .int x5, .int x6, .int x7] = T at *
    simp_arith [sh_look_at_eight, i8]
  generalize D.tup [.int x0, .int x1, .int x2, .int x3, .int x4, .int x5, .int x6, .int x7] = T at *
  simp_arith [sh_measure, lo, mo]
-- fuel__law_value := fun δ => match δ[2]? with | some (Sl.va (D.int b)) => b.natAbs + 1 | _ => 0
-- fuel__law_root := fun δ => match δ[1]? with | some (Sl.va (D.int b)) => b.natAbs + 1 | _ => 0
def vl (u v : Int) : D := .tup [.int u, .int v]
theorem pair_ex (v most : Int) (h0 : 0 < most) (h1 : most ≤ 99999) : ∃ a b t : Int, fn__law_pair [.lst [.int v], .int most] = .okp (.tup [.int a, .int b]) (.lst [.int t]) ∧ R 99999 a ∧ R 99999 b := by
  rw [fn__law_pair_eq]
  obtain ⟨x, t1, e1, r1⟩ := tk_ex v most h0 (by omega)
  obtain ⟨y, t, e2, r2⟩ := tk_ex t1 most h0 (by omega)
  have bm : B 30 most := B.le 99999 (by omega) (by omega) (by decide)
  have c : COp.fn .eq (.tup [.int (x - most), .int (y - most)]) (.tup [.int 0, .int 0]) = some (.bl (decide (x - most = 0) && (decide (y - most = 0) && true))) := by
    rw [cop_eq_tt (by rw [shp_t, shps_c, shps_c, shps_n, shp_i]; rfl) (by rw [shp_t, shps_c, shps_c, shps_n, shp_i]; rfl), eqs_cc, eqs_cc, eqs_nn, eq1_ii, eq1_ii]
  by_cases h : x - most = 0 ∧ y - most = 0
  · rw [decide_eq_true h.1, decide_eq_true h.2] at c
    refine ⟨1, 0, t, ?_, by unfold R; omega, by unfold R; omega⟩
    simp_arith [-cop_eq_tt, sh__law_pair, e1, e2, c]
  · rw [show (decide (x - most = 0) && (decide (y - most = 0) && true)) = false by simp; omega] at c
    refine ⟨x - most, y - most, t, ?_, r1.mono (by omega), r2.mono (by omega)⟩
    simp_arith [-cop_eq_tt, sh__law_pair, e1, e2, c]
theorem number_ex (v most : Int) (h0 : 0 < most) (h1 : most ≤ 9999999999999999999) : ∃ x t : Int, fn__law_number [.lst [.int v], .int most] = .okp (.int x) (.lst [.int t]) ∧ R 9999999999999999999 x := by
  rw [fn__law_number_eq]
  have tk := take_eq v 8 (by omega) ((B.lit _).mono (by decide))
  obtain ⟨m, em, m0, m1⟩ : ∃ m : Int, atI [D.int 3, .int 3, .int 9, .int 9, .int 100, .int 1000, .int 999999999, .int most] (v % 8) = some (.int m) ∧ 0 < m ∧ m ≤ 9999999999999999999 := by
    have h : v % 8 = 0 ∨ v % 8 = 1 ∨ v % 8 = 2 ∨ v % 8 = 3 ∨ v % 8 = 4 ∨ v % 8 = 5 ∨ v % 8 = 6 ∨ v % 8 = 7 := by omega
    rcases h with h | h | h | h | h | h | h | h <;> rw [h]
    · exact ⟨3, rfl, by decide, by decide⟩
    · exact ⟨3, rfl, by decide, by decide⟩
    · exact ⟨9, rfl, by decide, by decide⟩
    · exact ⟨9, rfl, by decide, by decide⟩
    · exact ⟨100, rfl, by decide, by decide⟩
    · exact ⟨1000, rfl, by decide, by decide⟩
    · exact ⟨999999999, rfl, by decide, by decide⟩
    · exact ⟨most, rfl, h0, h1⟩
  obtain ⟨x, t, e2, r2⟩ := tk_ex (v / 8) m m0 (by omega)
  have bm : B 80 m := B.le 9999999999999999999 (by omega) (by omega) (by decide)
  refine ⟨x - m, t, ?_, r2.mono m1⟩
  simp_arith [sh__law_number, tk, em, e2]
theorem prod_eq (a0 a1 b0 b1 c0 c1 : Int) (ha0 : R 99999 a0) (ha1 : R 99999 a1) (hb0 : R 99999 b0) (hb1 : R 99999 b1) (hc0 : R 99999 c0) (hc1 : R 99999 c1) : fn__law_products [.lst [.tup [.int a0, .int a1], .tup [.int b0, .int b1], .tup [.int c0, .int c1]]] = .ow (.lst [.int (a0 * b0 * c0), .int (a0 * b0 * c1), .int (a0 * b1 * c0), .int (a0 * b1 * c1), .int (a1 * b0 * c0), .int (a1 * b0 * c1), .int (a1 * b1 * c0), .int (a1 * b1 * c1)]) := by
  rw [fn__law_products_eq]
  have q : ∀ {x : Int}, R 99999 x → B 20 x := fun h => h.b (by decide)
  have x1 := q ha0; have x2 := q ha1; have x3 := q hb0; have x4 := q hb1; have x5 := q hc0; have x6 := q hc1
  simp_arith [sh__law_products, ce1__law_products, rngK_1, rngD_0, rngD_s]
theorem added_eq (x0 x1 x2 x3 x4 x5 x6 x7 y0 y1 y2 y3 y4 y5 y6 y7 : Int) : fn__law_added [.lst [.int x0, .int x1, .int x2, .int x3, .int x4, .int x5, .int x6, .int x7], .lst [.int y0, .int y1, .int y2, .int y3, .int y4, .int y5, .int y6, .int y7]] = .ow (.lst [.int (x0 + y0), .int (x1 + y1), .int (x2 + y2), .int (x3 + y3), .int (x4 + y4), .int (x5 + y5), .int (x6 + y6), .int (x7 + y7)]) := by
  rw [fn__law_added_eq]
  simp_arith [sh__law_added, ce1__law_added]
theorem parted_ex (v most w : Int) (h0 : 0 < most) (h1 : most ≤ 99999) (w0 : 0 ≤ w) (w1 : w < 3) : ∃ (xs : List Int) (t : Int), fn__law_parted_by [.lst [.int v], .int most, .int w] = .owp (.lst (xs.map D.int)) (.lst [.int t]) ∧ xs.length = 8 ∧ ∀ x ∈ xs, R 9999999999999999998 x := by
  rw [fn__law_parted_by_eq]
  have bm : B 30 most := B.le 99999 (by omega) (by omega) (by decide)
  obtain ⟨n0, t0, en0, rn0⟩ := tk_ex v most h0 (by omega)
  obtain ⟨n1, t1, en1, rn1⟩ := tk_ex t0 most h0 (by omega)
  obtain ⟨n2, t2, en2, rn2⟩ := tk_ex t1 most h0 (by omega)
  obtain ⟨n3, t3, en3, rn3⟩ := tk_ex t2 most h0 (by omega)
  obtain ⟨a, b, t, ep, ra, rb⟩ := pair_ex t3 most h0 h1
  have q : ∀ {x : Int}, R most x → R 99999 x := fun h => h.mono h1
  replace rn0 := q rn0; replace rn1 := q rn1; replace rn2 := q rn2; replace rn3 := q rn3
  have q2 : ∀ {x : Int}, R 99999 x → B 20 x := fun h => h.b (by decide)
  have b0 := q2 rn0; have b1 := q2 rn1; have b2 := q2 rn2; have b3 := q2 rn3; have ba := q2 ra; have bb := q2 rb
  have pr : ∀ {x y : Int}, R 99999 x → R 99999 y → R 9999999999999999998 (x * y) := fun h k => (h.mul k).mono (by decide)
  have rp : ∀ δ, fRep (fLst [dCst (.int 0)]) 8 δ = .ok (.lst [.int 0, .int 0, .int 0, .int 0, .int 0, .int 0, .int 0, .int 0]) δ := fun δ => rfl
  have w3 : w = 0 ∨ w = 1 ∨ w = 2 := by omega
  rcases w3 with rfl | rfl | rfl
  · refine ⟨[a * (n0 - most), a * (n1 - most), a * (n2 - most), a * (n3 - most), b * (n0 - most), b * (n1 - most), b * (n2 - most), b * (n3 - most)], t, ?_, rfl, ?_⟩
    · simp_arith [-fRep_, sh__law_parted_by, ce1__law_parted_by, ct1__law_parted_by, ce2__law_parted_by, lb1__law_parted_by, rp, sFor_, kFor_ok, rngK_1, rngD_0, rngD_s, en0, en1, en2, en3, ep]
    · intro x hx
      simp only [List.mem_cons, List.not_mem_nil, or_false] at hx
      rcases hx with rfl | rfl | rfl | rfl | rfl | rfl | rfl | rfl <;> (apply pr <;> assumption)
  · refine ⟨[a * (n0 - most), a * (n1 - most), b * (n0 - most), b * (n1 - most), a * (n2 - most), a * (n3 - most), b * (n2 - most), b * (n3 - most)], t, ?_, rfl, ?_⟩
    · simp_arith [-fRep_, sh__law_parted_by, ce1__law_parted_by, ct1__law_parted_by, ce2__law_parted_by, lb1__law_parted_by, rp, sFor_, kFor_ok, rngK_1, rngD_0, rngD_s, en0, en1, en2, en3, ep]
    · intro x hx
      simp only [List.mem_cons, List.not_mem_nil, or_false] at hx
      rcases hx with rfl | rfl | rfl | rfl | rfl | rfl | rfl | rfl <;> (apply pr <;> assumption)
  · refine ⟨[a * (n0 - most), b * (n0 - most), a * (n1 - most), b * (n1 - most), a * (n2 - most), b * (n2 - most), a * (n3 - most), b * (n3 - most)], t, ?_, rfl, ?_⟩
    · simp_arith [-fRep_, sh__law_parted_by, ce1__law_parted_by, ct1__law_parted_by, ce2__law_parted_by, lb1__law_parted_by, rp, sFor_, kFor_ok, rngK_1, rngD_0, rngD_s, en0, en1, en2, en3, ep]
    · intro x hx
      simp only [List.mem_cons, List.not_mem_nil, or_false] at hx
      rcases hx with rfl | rfl | rfl | rfl | rfl | rfl | rfl | rfl <;> (apply pr <;> assumption)
theorem pencil_ex (v most : Int) (h0 : 0 < most) (h1 : most ≤ 99999) : ∃ (xs : List Int) (t : Int), fn__law_pencil [.lst [.int v], .int most] = .owp (.lst (xs.map D.int)) (.lst [.int t]) ∧ xs.length = 8 ∧ ∀ x ∈ xs, R 9999999999999999998 x := by
  rw [fn__law_pencil_eq]
  have bm : B 30 most := B.le 99999 (by omega) (by omega) (by decide)
  obtain ⟨n0, t0, en0, rn0⟩ := tk_ex v most h0 (by omega)
  obtain ⟨n1, t1, en1, rn1⟩ := tk_ex t0 most h0 (by omega)
  obtain ⟨n2, t2, en2, rn2⟩ := tk_ex t1 most h0 (by omega)
  obtain ⟨n3, t3, en3, rn3⟩ := tk_ex t2 most h0 (by omega)
  obtain ⟨m0, s0, em0, rm0⟩ := tk_ex t3 most h0 (by omega)
  obtain ⟨m1, s1, em1, rm1⟩ := tk_ex s0 most h0 (by omega)
  obtain ⟨m2, s2, em2, rm2⟩ := tk_ex s1 most h0 (by omega)
  obtain ⟨m3, s3, em3, rm3⟩ := tk_ex s2 most h0 (by omega)
  have q : ∀ {x : Int}, R most x → R 99999 x := fun h => h.mono h1
  have q2 : ∀ {x : Int}, R 99999 x → B 20 x := fun h => h.b (by decide)
  replace rn0 := q rn0
  have bn0 := q2 rn0
  replace rn1 := q rn1
  have bn1 := q2 rn1
  replace rn2 := q rn2
  have bn2 := q2 rn2
  replace rn3 := q rn3
  have bn3 := q2 rn3
  replace rm0 := q rm0
  have bm0 := q2 rm0
  replace rm1 := q rm1
  have bm1 := q2 rm1
  replace rm2 := q rm2
  have bm2 := q2 rm2
  replace rm3 := q rm3
  have bm3 := q2 rm3
  have pr : ∀ {x y z w : Int}, R 99999 x → R 99999 y → R 99999 z → R 99999 w → R 9999999999999999998 (x * y + z * w) := fun h k l m => ((h.mul k).add (l.mul m)).mono (by decide)
  have p1 : ∀ {x : Int}, R 99999 x → R 9999999999999999998 x := fun h => h.mono (by decide)
  refine ⟨[(n0 - most), (n1 - most), (n2 - most), (n3 - most), (n0 - most) * (m0 - most) + (n1 - most) * (m2 - most), (n0 - most) * (m1 - most) + (n1 - most) * (m3 - most), (n2 - most) * (m0 - most) + (n3 - most) * (m2 - most), (n2 - most) * (m1 - most) + (n3 - most) * (m3 - most)], s3, ?_, rfl, ?_⟩
  · simp_arith [sh__law_pencil, ce1__law_pencil, ce2__law_pencil, rngK_1, rngD_0, rngD_s, en0, en1, en2, en3, em0, em1, em2, em3]
  · intro x hx
    simp only [List.mem_cons, List.not_mem_nil, or_false] at hx
    rcases hx with rfl | rfl | rfl | rfl | rfl | rfl | rfl | rfl <;> first | (apply p1; assumption) | (apply pr <;> assumption)
def kd : SDen := (sIf (dBin (COp.fn .eq) (dVar 2) (dCst (.int 0))) (sSeq (sOwn 8 (fComp (iRng [(dCst (.int 8))]) (Tg.st (.var 9)) none ce3__law_eight [9])) sNil) (sSeq (sIf (dBin (COp.fn .eq) (dVar 2) (dCst (.int 1))) (sSeq (sOwn 8 (fComp (iRng [(dCst (.int 8))]) (Tg.st (.var 9)) none ce4__law_eight [9])) sNil) (sSeq (sIf (dBin (COp.fn .eq) (dVar 2) (dCst (.int 2))) (sSeq (sOwn 8 (fCallP fn__law_parted_by 0 0 [none, some (dVar 5), some (dBin modD (dVar 4) (dCst (.int 3)))])) sNil) (sSeq (sIf (dBin (COp.fn .eq) (dVar 2) (dCst (.int 3))) (sSeq (sOwn 8 (fCallP fn__law_pencil 0 0 [none, some (dVar 5)])) sNil) (sSeq (sIf (dBin (COp.fn .eq) (dVar 2) (dCst (.int 4))) (sSeq (sOwn 8 (fCall fn__law_products [(dVar 6)])) sNil) (sSeq (sIf (dBin (COp.fn .eq) (dVar 2) (dCst (.int 5))) (sSeq (sOwn 8 (fCall fn__law_added [(dCall fn__law_products [(dVar 6)]), (dCall fn__law_products [(dVar 7)])])) sNil) (sSeq (sOwn 8 (fCall fn__law_products [(dFr (fLst [(dBin idxD (dVar 7) (dCst (.int 0))), (dBin idxD (dVar 6) (dCst (.int 1))), (dBin idxD (dVar 6) (dCst (.int 2)))]))])) (sSeq (sOwn 8 (fCall fn__law_added [(dVar 8), (dCall fn__law_products [(dFr (fLst [(dBin idxD (dVar 6) (dCst (.int 0))), (dBin idxD (dVar 7) (dCst (.int 1))), (dBin idxD (dVar 6) (dCst (.int 2)))]))])])) (sSeq (sOwn 8 (fCall fn__law_added [(dVar 8), (dCall fn__law_products [(dFr (fLst [(dBin idxD (dVar 6) (dCst (.int 0))), (dBin idxD (dVar 6) (dCst (.int 1))), (dBin idxD (dVar 7) (dCst (.int 2)))]))])])) sNil)))) sNil)) sNil)) sNil)) sNil)) sNil))
def tl : SDen := (sSeq (sIf (dOrs [(dVar 3), (dCmpB (COp.fn .eq) 8 (dFr (fRep (fLst [(dCst (.int 0))]) 8)))]) (sSeq (sSub 8 (dVar 4) (dBin addD (dIxO 8 (dVar 4)) (dCst (.int 1)))) sNil) sNil) (sSeq (sIf (dCmpB (COp.fn .eq) 8 (dFr (fRep (fLst [(dCst (.int 0))]) 8))) (sSeq (sSub 8 (dVar 4) (dCst (.int 1))) sNil) sNil) (sSeq (sRet (dBi tupL [(dVar 8)])) sNil)))
theorem sh_split : sh__law_eight = (sSeq (sAsg (Tg.st (.var 2)) (dCallP fn__law_take 0 0 [none, some (dCst (.int 8))])) (sSeq (sAsg (Tg.st (.var 3)) (dBin (COp.fn .eq) (dCallP fn__law_take 0 0 [none, some (dCst (.int 6))]) (dCst (.int 5)))) (sSeq (sAsg (Tg.st (.var 4)) (dCallP fn__law_take 0 0 [none, some (dCst (.int 8))])) (sSeq (sAsg (Tg.st (.var 5)) (dBin idxD (dFr (fLst [(dCst (.int 2)), (dCst (.int 5)), (dCst (.int 30)), (dCst (.int 99999))])) (dCallP fn__law_take 0 0 [none, some (dCst (.int 4))]))) (sSeq (sAsg (Tg.st (.var 6)) (dFr (fComp (iRng [(dCst (.int 3))]) (Tg.st (.var 9)) none ce1__law_eight [9]))) (sSeq (sAsg (Tg.st (.var 7)) (dFr (fComp (iRng [(dCst (.int 3))]) (Tg.st (.var 9)) none ce2__law_eight [9]))) (sSeq kd tl))))))) := rfl
theorem eqs_ints : ∀ xs ys : List Int, eqs (xs.map D.int) (ys.map D.int) = decide (xs = ys)
  | [], [] => eqs_nn
  | [], y :: ys => by rw [List.map_nil, List.map_cons, eqs_nc]; simp
  | x :: xs, [] => by rw [List.map_nil, List.map_cons, eqs_cn]; simp
  | x :: xs, y :: ys => by rw [List.map_cons, List.map_cons, eqs_cc, eq1_ii, eqs_ints xs ys, ← Bool.decide_and]; exact decide_eq_decide.mpr (by simp)
def z8 : List Int := [0, 0, 0, 0, 0, 0, 0, 0]
theorem cmp8 (xs : List Int) : COp.fn .eq (.lst (xs.map D.int)) (.lst [.int 0, .int 0, .int 0, .int 0, .int 0, .int 0, .int 0, .int 0]) = some (.bl (decide (xs = z8))) := by
  have k : ∀ ys : List Int, shp 64 (.lst (ys.map D.int)) = true := fun ys => by rw [shp_l]; exact shps_ints
  show COp.fn .eq (.lst (xs.map D.int)) (.lst (z8.map D.int)) = _
  rw [cop_eq_ll (k _) (k _), eqs_ints]
theorem nz8 {xs : List Int} (h : xs.length = 8) (n : xs ≠ z8) : ∃ x ∈ xs, x ≠ 0 := Classical.byContradiction fun c => n (by
  have : ∀ x ∈ xs, x = 0 := fun x hx => Classical.byContradiction fun e => c ⟨x, hx, e⟩
  have := List.eq_replicate_iff.mpr ⟨h, this⟩
  exact this)
theorem tl_ok (s1 s2 s5 s6 s7 s9 : Sl) (t : Int) (om : Bool) (p : Int) (xs : List Int) (h8 : xs.length = 8) (p0 : 0 ≤ p) (p1 : p < 8) (hb : ∀ x ∈ xs, R 9999999999999999999 x) :
    ∃ (ys : List Int) (δ : En), tl [.pi (.lst [.int t]), s1, s2, .va (.bl om), .va (.int p), s5, s6, s7, .ow (.lst (xs.map D.int)), s9] = .rt (.tup (ys.map D.int)) δ ∧ δ[0]? = some (.pi (.lst [.int t])) ∧ ys.length = 8 ∧ (∀ y ∈ ys, R 10000000000000000000 y) ∧ ∃ y ∈ ys, y ≠ 0 := by
  have rp : ∀ δ, fRep (fLst [dCst (.int 0)]) 8 δ = .ok (.lst [.int 0, .int 0, .int 0, .int 0, .int 0, .int 0, .int 0, .int 0]) δ := fun δ => rfl
  have nn : p.toNat < xs.length := by omega
  have ec : atI (xs.map D.int) p = some (.int xs[p.toNat]) := by
    conv => lhs; rw [← Int.toNat_of_nonneg p0]
    rw [atI_n, List.getElem?_map, List.getElem?_eq_getElem nn]
    rfl
  have ix : ixN 8 p = some p.toNat := ixN_nn ⟨p0, p1⟩
  have hm : ∀ (zs : List Int) (v : Int), (zs.map D.int).set p.toNat (.int v) = (zs.set p.toNat v).map D.int := fun zs v => by rw [List.map_set]
  have c1 := cmp8 xs
  have c2 := cmp8 (xs.set p.toNat (xs[p.toNat] + 1))
  have hm1 := hm xs (xs[p.toNat] + 1)
  have hm2 := hm (xs.set p.toNat (xs[p.toNat] + 1)) 1
  have l1 : (xs.map D.int).length = 8 := by rw [List.length_map, h8]
  have l2 : ((xs.set p.toNat (xs[p.toNat] + 1)).map D.int).length = 8 := by rw [List.length_map, List.length_set, h8]
  have cB : R 9999999999999999999 xs[p.toNat] := hb _ (List.getElem_mem nn)
  have B1 : ∀ y ∈ xs.set p.toNat (xs[p.toNat] + 1), R 10000000000000000000 y := fun y hy => by
    rcases List.mem_or_eq_of_mem_set hy with h | h
    · exact (hb y h).mono (by decide)
    · rw [h]; unfold R at *; omega
  have B2 : ∀ y ∈ (xs.set p.toNat (xs[p.toNat] + 1)).set p.toNat 1, R 10000000000000000000 y := fun y hy => by
    rcases List.mem_or_eq_of_mem_set hy with h | h
    · exact B1 y h
    · rw [h]; unfold R; omega
  have nz1 : ∃ y ∈ (xs.set p.toNat (xs[p.toNat] + 1)).set p.toNat 1, y ≠ 0 := ⟨1, List.mem_set (by rw [List.length_set]; exact nn) 1, by decide⟩
  generalize hc : xs[p.toNat] = c at *
  generalize hX1 : xs.set p.toNat (c + 1) = x1 at *
  have h81 : x1.length = 8 := by rw [← hX1, List.length_set, h8]
  generalize hX2 : x1.set p.toNat 1 = x2 at *
  have h82 : x2.length = 8 := by rw [← hX2, List.length_set, h81]
  have fin : ∀ b : Bool, (om || decide (xs = z8)) = b → b = true → ∃ (ys : List Int) (δ : En), tl [.pi (.lst [.int t]), s1, s2, .va (.bl om), .va (.int p), s5, s6, s7, .ow (.lst (xs.map D.int)), s9] = .rt (.tup (ys.map D.int)) δ ∧ δ[0]? = some (.pi (.lst [.int t])) ∧ ys.length = 8 ∧ (∀ y ∈ ys, R 10000000000000000000 y) ∧ ∃ y ∈ ys, y ≠ 0 := fun b hb' e => by
    subst e
    by_cases z : x1 = z8
    · rw [decide_eq_true z] at c2
      refine ⟨x2, [.pi (.lst [.int t]), s1, s2, .va (.bl om), .va (.int p), s5, s6, s7, .va (.lst (x2.map D.int)), s9], ?_, rfl, h82, B2, nz1⟩
      generalize decide (xs = z8) = z0 at *
      clear hb B1 B2 nz1 z
      cases om <;> cases z0 <;> first | (exfalso; simp at hb'; done) | simp_arith [-fRep_, -cop_eq_ll, tl, rp, ec, ix, c1, c2, hm1, hm2, l1, l2]
    · have nz := nz8 h81 z
      rw [decide_eq_false z] at c2
      refine ⟨x1, [.pi (.lst [.int t]), s1, s2, .va (.bl om), .va (.int p), s5, s6, s7, .va (.lst (x1.map D.int)), s9], ?_, rfl, h81, B1, nz⟩
      generalize decide (xs = z8) = z0 at *
      clear hb B1 B2 nz1 z nz
      cases om <;> cases z0 <;> first | (exfalso; simp at hb'; done) | simp_arith [-fRep_, -cop_eq_ll, tl, rp, ec, ix, c1, c2, hm1, hm2, l1, l2]
  by_cases hh : (om || decide (xs = z8)) = true
  · exact fin true hh rfl
  · rw [Bool.not_eq_true, Bool.or_eq_false_iff] at hh
    obtain ⟨ho, hz⟩ := hh
    have nz := nz8 h8 (of_decide_eq_false hz)
    subst ho
    rw [hz] at c1
    refine ⟨xs, [.pi (.lst [.int t]), s1, s2, .va (.bl false), .va (.int p), s5, s6, s7, .va (.lst (xs.map D.int)), s9], ?_, rfl, h8, fun y hy => (hb y hy).mono (by decide), nz⟩
    clear fin hb B1 B2 nz1 nz
    simp_arith [-fRep_, -cop_eq_ll, tl, rp, c1]
theorem kd_ok (v far k p most a0 a1 b0 b1 c0 c1 d0 d1 e0 e1 f0 f1 : Int) (s3 : Sl) (fa : 0 < far) (fb : far ≤ 9999999999999999999) (m0 : 0 < most) (m1 : most ≤ 99999) (p0 : 0 ≤ p) (p1 : p < 8) (k0 : 0 ≤ k) (k1 : k < 8) (ha0 : R 99999 a0) (ha1 : R 99999 a1) (hb0 : R 99999 b0) (hb1 : R 99999 b1) (hc0 : R 99999 c0) (hc1 : R 99999 c1) (hd0 : R 99999 d0) (hd1 : R 99999 d1) (he0 : R 99999 e0) (he1 : R 99999 e1) (hf0 : R 99999 f0) (hf1 : R 99999 f1) :
    ∃ (xs : List Int) (t : Int), kd [.pi (.lst [.int v]), .va (.int far), .va (.int k), s3, .va (.int p), .va (.int most), .va (.lst [.tup [.int a0, .int a1], .tup [.int b0, .int b1], .tup [.int c0, .int c1]]), .va (.lst [.tup [.int d0, .int d1], .tup [.int e0, .int e1], .tup [.int f0, .int f1]]), .no, .no] = .nx [.pi (.lst [.int t]), .va (.int far), .va (.int k), s3, .va (.int p), .va (.int most), .va (.lst [.tup [.int a0, .int a1], .tup [.int b0, .int b1], .tup [.int c0, .int c1]]), .va (.lst [.tup [.int d0, .int d1], .tup [.int e0, .int e1], .tup [.int f0, .int f1]]), .ow (.lst (xs.map D.int)), .no] ∧ xs.length = 8 ∧ ∀ x ∈ xs, R 9999999999999999999 x := by
  have up : ∀ {x : Int}, R 9999999999999999998 x → R 9999999999999999999 x := fun h => h.mono (by decide)
  have p3 : ∀ {x y z : Int}, R 99999 x → R 99999 y → R 99999 z → R 1000000000000000 (x * y * z) := fun h k l => ((h.mul k).mul l).mono (by decide)
  have kk : k = 0 ∨ k = 1 ∨ k = 2 ∨ k = 3 ∨ k = 4 ∨ k = 5 ∨ (k ≠ 0 ∧ k ≠ 1 ∧ k ≠ 2 ∧ k ≠ 3 ∧ k ≠ 4 ∧ k ≠ 5) := by omega
  rcases kk with rfl | rfl | rfl | rfl | rfl | rfl | ⟨g0, g1, g2, g3, g4, g5⟩
  · obtain ⟨x0, t0, en0, rx0⟩ := number_ex v far fa fb
    obtain ⟨x1, t1, en1, rx1⟩ := number_ex t0 far fa fb
    obtain ⟨x2, t2, en2, rx2⟩ := number_ex t1 far fa fb
    obtain ⟨x3, t3, en3, rx3⟩ := number_ex t2 far fa fb
    obtain ⟨x4, t4, en4, rx4⟩ := number_ex t3 far fa fb
    obtain ⟨x5, t5, en5, rx5⟩ := number_ex t4 far fa fb
    obtain ⟨x6, t6, en6, rx6⟩ := number_ex t5 far fa fb
    obtain ⟨x7, t7, en7, rx7⟩ := number_ex t6 far fa fb
    refine ⟨[x0, x1, x2, x3, x4, x5, x6, x7], t7, ?_, rfl, ?_⟩
    · simp_arith [kd, ce3__law_eight, rngK_1, rngD_0, rngD_s, en0, en1, en2, en3, en4, en5, en6, en7]
    · intro x hx
      simp only [List.mem_cons, List.not_mem_nil, or_false] at hx
      rcases hx with rfl | rfl | rfl | rfl | rfl | rfl | rfl | rfl <;> assumption
  · have n3 : B 8999 3 := (B.lit _).mono (by decide)
    have tk : ∀ v : Int, ∃ x t : Int, fn__law_take [.lst [.int v], .int 3] = .okp (.int x) (.lst [.int t]) ∧ R 9999999999999999999 (x - 1) := fun v => ⟨_, _, take_eq v 3 (by omega) n3, by unfold R; omega⟩
    obtain ⟨x0, t0, en0, rx0⟩ := tk v
    obtain ⟨x1, t1, en1, rx1⟩ := tk t0
    obtain ⟨x2, t2, en2, rx2⟩ := tk t1
    obtain ⟨x3, t3, en3, rx3⟩ := tk t2
    obtain ⟨x4, t4, en4, rx4⟩ := tk t3
    obtain ⟨x5, t5, en5, rx5⟩ := tk t4
    obtain ⟨x6, t6, en6, rx6⟩ := tk t5
    obtain ⟨x7, t7, en7, rx7⟩ := tk t6
    refine ⟨[x0 - 1, x1 - 1, x2 - 1, x3 - 1, x4 - 1, x5 - 1, x6 - 1, x7 - 1], t7, ?_, rfl, ?_⟩
    · simp_arith [kd, ce4__law_eight, rngK_1, rngD_0, rngD_s, en0, en1, en2, en3, en4, en5, en6, en7]
    · intro x hx
      simp only [List.mem_cons, List.not_mem_nil, or_false] at hx
      rcases hx with rfl | rfl | rfl | rfl | rfl | rfl | rfl | rfl <;> assumption
  · obtain ⟨xs, t, e, l8, hb⟩ := parted_ex v most (p % 3) m0 m1 (by omega) (by omega)
    refine ⟨xs, t, ?_, l8, fun x hx => up (hb x hx)⟩
    clear hb
    simp_arith [kd, e]
  · obtain ⟨xs, t, e, l8, hb⟩ := pencil_ex v most m0 m1
    refine ⟨xs, t, ?_, l8, fun x hx => up (hb x hx)⟩
    clear hb
    simp_arith [kd, e]
  · have e := prod_eq a0 a1 b0 b1 c0 c1 ha0 ha1 hb0 hb1 hc0 hc1
    refine ⟨[a0 * b0 * c0, a0 * b0 * c1, a0 * b1 * c0, a0 * b1 * c1, a1 * b0 * c0, a1 * b0 * c1, a1 * b1 * c0, a1 * b1 * c1], v, ?_, rfl, ?_⟩
    · simp_arith [kd, e]
    · intro x hx
      simp only [List.mem_cons, List.not_mem_nil, or_false] at hx
      rcases hx with rfl | rfl | rfl | rfl | rfl | rfl | rfl | rfl <;> (refine R.mono (m := 1000000000000000) ?_ (by decide); apply p3 <;> assumption)
  · have e := prod_eq a0 a1 b0 b1 c0 c1 ha0 ha1 hb0 hb1 hc0 hc1
    have e' := prod_eq d0 d1 e0 e1 f0 f1 hd0 hd1 he0 he1 hf0 hf1
    refine ⟨[a0 * b0 * c0 + d0 * e0 * f0, a0 * b0 * c1 + d0 * e0 * f1, a0 * b1 * c0 + d0 * e1 * f0, a0 * b1 * c1 + d0 * e1 * f1, a1 * b0 * c0 + d1 * e0 * f0, a1 * b0 * c1 + d1 * e0 * f1, a1 * b1 * c0 + d1 * e1 * f0, a1 * b1 * c1 + d1 * e1 * f1], v, ?_, rfl, ?_⟩
    · have ad := added_eq (a0 * b0 * c0) (a0 * b0 * c1) (a0 * b1 * c0) (a0 * b1 * c1) (a1 * b0 * c0) (a1 * b0 * c1) (a1 * b1 * c0) (a1 * b1 * c1) (d0 * e0 * f0) (d0 * e0 * f1) (d0 * e1 * f0) (d0 * e1 * f1) (d1 * e0 * f0) (d1 * e0 * f1) (d1 * e1 * f0) (d1 * e1 * f1)
      simp_arith [kd, e, e', ad]
    · intro x hx
      simp only [List.mem_cons, List.not_mem_nil, or_false] at hx
      rcases hx with rfl | rfl | rfl | rfl | rfl | rfl | rfl | rfl <;> (refine R.mono (m := 1000000000000000 + 1000000000000000) ?_ (by decide); (refine R.add ?_ ?_ <;> apply p3 <;> assumption))
  · have e1_ := prod_eq d0 d1 b0 b1 c0 c1 hd0 hd1 hb0 hb1 hc0 hc1
    have e2_ := prod_eq a0 a1 e0 e1 c0 c1 ha0 ha1 he0 he1 hc0 hc1
    have e3_ := prod_eq a0 a1 b0 b1 f0 f1 ha0 ha1 hb0 hb1 hf0 hf1
    refine ⟨[d0 * b0 * c0 + a0 * e0 * c0 + a0 * b0 * f0, d0 * b0 * c1 + a0 * e0 * c1 + a0 * b0 * f1, d0 * b1 * c0 + a0 * e1 * c0 + a0 * b1 * f0, d0 * b1 * c1 + a0 * e1 * c1 + a0 * b1 * f1, d1 * b0 * c0 + a1 * e0 * c0 + a1 * b0 * f0, d1 * b0 * c1 + a1 * e0 * c1 + a1 * b0 * f1, d1 * b1 * c0 + a1 * e1 * c0 + a1 * b1 * f0, d1 * b1 * c1 + a1 * e1 * c1 + a1 * b1 * f1], v, ?_, rfl, ?_⟩
    · have ad := added_eq (d0 * b0 * c0) (d0 * b0 * c1) (d0 * b1 * c0) (d0 * b1 * c1) (d1 * b0 * c0) (d1 * b0 * c1) (d1 * b1 * c0) (d1 * b1 * c1) (a0 * e0 * c0) (a0 * e0 * c1) (a0 * e1 * c0) (a0 * e1 * c1) (a1 * e0 * c0) (a1 * e0 * c1) (a1 * e1 * c0) (a1 * e1 * c1)
      have ad2 := added_eq (d0 * b0 * c0 + a0 * e0 * c0) (d0 * b0 * c1 + a0 * e0 * c1) (d0 * b1 * c0 + a0 * e1 * c0) (d0 * b1 * c1 + a0 * e1 * c1) (d1 * b0 * c0 + a1 * e0 * c0) (d1 * b0 * c1 + a1 * e0 * c1) (d1 * b1 * c0 + a1 * e1 * c0) (d1 * b1 * c1 + a1 * e1 * c1) (a0 * b0 * f0) (a0 * b0 * f1) (a0 * b1 * f0) (a0 * b1 * f1) (a1 * b0 * f0) (a1 * b0 * f1) (a1 * b1 * f0) (a1 * b1 * f1)
      simp_arith [kd, e1_, e2_, e3_, ad, ad2, g0, g1, g2, g3, g4, g5]
    · intro x hx
      simp only [List.mem_cons, List.not_mem_nil, or_false] at hx
      rcases hx with rfl | rfl | rfl | rfl | rfl | rfl | rfl | rfl <;> (refine R.mono (m := 1000000000000000 + 1000000000000000 + 1000000000000000) ?_ (by decide); (refine R.add (R.add ?_ ?_) ?_ <;> apply p3 <;> assumption))
theorem eight_ex (v far : Int) (f0 : 0 < far) (f1 : far ≤ 9999999999999999999) : ∃ (ys : List Int) (t : Int), fn__law_eight [.lst [.int v], .int far] = .okp (.tup (ys.map D.int)) (.lst [.int t]) ∧ ys.length = 8 ∧ (∀ y ∈ ys, R 10000000000000000000 y) ∧ ∃ y ∈ ys, y ≠ 0 := by
  rw [fn__law_eight_eq, sh_split]
  have T : ∀ v m : Int, 0 < m → m < 100 → fn__law_take [.lst [.int v], .int m] = .okp (.int (v % m)) (.lst [.int (v / m)]) := fun v m h h' => take_eq v m h (B.mono (n := 10) (B.le 100 (by omega) (by omega) (by decide)) (by decide))
  have t1 := T v 8 (by decide) (by decide)
  have t2 := T (v / 8) 6 (by decide) (by decide)
  have t3 := T (v / 8 / 6) 8 (by decide) (by decide)
  have t4 := T (v / 8 / 6 / 8) 4 (by decide) (by decide)
  obtain ⟨most, em, m0, m1⟩ : ∃ m : Int, atI [D.int 2, .int 5, .int 30, .int 99999] (v / 8 / 6 / 8 % 4) = some (.int m) ∧ 0 < m ∧ m ≤ 99999 := by
    have h : v / 8 / 6 / 8 % 4 = 0 ∨ v / 8 / 6 / 8 % 4 = 1 ∨ v / 8 / 6 / 8 % 4 = 2 ∨ v / 8 / 6 / 8 % 4 = 3 := by omega
    rcases h with h | h | h | h <;> rw [h]
    · exact ⟨2, rfl, by decide, by decide⟩
    · exact ⟨5, rfl, by decide, by decide⟩
    · exact ⟨30, rfl, by decide, by decide⟩
    · exact ⟨99999, rfl, by decide, by decide⟩
  obtain ⟨a0, a1, u1, ea, ha0, ha1⟩ := pair_ex (v / 8 / 6 / 8 / 4) most m0 m1
  obtain ⟨b0, b1, u2, eb, hb0, hb1⟩ := pair_ex u1 most m0 m1
  obtain ⟨c0, c1, u3, ec, hc0, hc1⟩ := pair_ex u2 most m0 m1
  obtain ⟨d0, d1, u4, ed, hd0, hd1⟩ := pair_ex u3 most m0 m1
  obtain ⟨e0, e1, u5, ee, he0, he1⟩ := pair_ex u4 most m0 m1
  obtain ⟨f0_, f1_, u6, ef, hf0, hf1⟩ := pair_ex u5 most m0 m1
  obtain ⟨xs, t, ek, l8, hx⟩ := kd_ok u6 far (v % 8) (v / 8 / 6 % 8) most a0 a1 b0 b1 c0 c1 d0 d1 e0 e1 f0_ f1_ (.va (.bl (decide (v / 8 % 6 = 5)))) f0 f1 m0 m1 (by omega) (by omega) (by omega) (by omega) ha0 ha1 hb0 hb1 hc0 hc1 hd0 hd1 he0 he1 hf0 hf1
  obtain ⟨ys, δ, et, e0', ly, by_, ny⟩ := tl_ok (.va (.int far)) (.va (.int (v % 8))) (.va (.int most)) (.va (.lst [.tup [.int a0, .int a1], .tup [.int b0, .int b1], .tup [.int c0, .int c1]])) (.va (.lst [.tup [.int d0, .int d1], .tup [.int e0, .int e1], .tup [.int f0_, .int f1_]])) .no t (decide (v / 8 % 6 = 5)) (v / 8 / 6 % 8) xs l8 (by omega) (by omega) hx
  refine ⟨ys, t, ?_, ly, by_, ny⟩
  have r : ∀ d : D, endP 0 (.rt d δ) = .okp d (.lst [.int t]) := fun d => by rw [endP_rt, e0']; rfl
  clear hx by_ ny T
  simp_arith [-endP_rt, ce1__law_eight, ce2__law_eight, rngK_1, rngD_0, rngD_s, t1, t2, t3, t4, em, ea, eb, ec, ed, ee, ef, ek, et, r]
theorem len8 : ∀ {ys : List Int}, ys.length = 8 → ∃ x0 x1 x2 x3 x4 x5 x6 x7, ys = [x0, x1, x2, x3, x4, x5, x6, x7]
  | [a, b, c, d, e, f, g, h], _ => ⟨a, b, c, d, e, f, g, h, rfl⟩
  | [], h => by simp at h
  | [_], h => by simp at h
  | [_, _], h => by simp at h
  | [_, _, _], h => by simp at h
  | [_, _, _, _], h => by simp at h
  | [_, _, _, _, _], h => by simp at h
  | [_, _, _, _, _, _], h => by simp at h
  | [_, _, _, _, _, _, _], h => by simp at h
  | _ :: _ :: _ :: _ :: _ :: _ :: _ :: _ :: _ :: _, h => by simp at h
theorem side_0 (x0 x1 x2 x3 x4 x5 x6 x7 : Int) (hb : ∀ x ∈ [x0, x1, x2, x3, x4, x5, x6, x7], B 70 x) : fn_sides_of [.tup [.int x0, .int x1, .int x2, .int x3, .int x4, .int x5, .int x6, .int x7], .int 0] = .ok (.tup [.lst [.int x0, .int x1, .int x2, .int x3], .lst [.int x4, .int x5, .int x6, .int x7]]) ∧
    (∀ u v : Int, B 400 u → B 400 v → fn__law_left [.tup [.int x0, .int x1, .int x2, .int x3, .int x4, .int x5, .int x6, .int x7], .int 0, .tup [.int u, .int v]] = .ok (.lst [.int (v * x0 + u * x4), .int (v * x1 + u * x5), .int (v * x2 + u * x6), .int (v * x3 + u * x7)])) ∧
    (x0 * x7 + x4 * x3 - x1 * x6 - x5 * x2) * (x0 * x7 + x4 * x3 - x1 * x6 - x5 * x2) - 4 * (x4 * x7 - x5 * x6) * (x0 * x3 - x1 * x2) = ms x0 x1 x2 x3 x4 x5 x6 x7 := by
  have i0 : idxD (.tup [.int x0, .int x1, .int x2, .int x3, .int x4, .int x5, .int x6, .int x7]) (.int 0) = some (.int x0) := rfl
  have i1 : idxD (.tup [.int x0, .int x1, .int x2, .int x3, .int x4, .int x5, .int x6, .int x7]) (.int 1) = some (.int x1) := rfl
  have i2 : idxD (.tup [.int x0, .int x1, .int x2, .int x3, .int x4, .int x5, .int x6, .int x7]) (.int 2) = some (.int x2) := rfl
  have i3 : idxD (.tup [.int x0, .int x1, .int x2, .int x3, .int x4, .int x5, .int x6, .int x7]) (.int 3) = some (.int x3) := rfl
  have i4 : idxD (.tup [.int x0, .int x1, .int x2, .int x3, .int x4, .int x5, .int x6, .int x7]) (.int 4) = some (.int x4) := rfl
  have i5 : idxD (.tup [.int x0, .int x1, .int x2, .int x3, .int x4, .int x5, .int x6, .int x7]) (.int 5) = some (.int x5) := rfl
  have i6 : idxD (.tup [.int x0, .int x1, .int x2, .int x3, .int x4, .int x5, .int x6, .int x7]) (.int 6) = some (.int x6) := rfl
  have i7 : idxD (.tup [.int x0, .int x1, .int x2, .int x3, .int x4, .int x5, .int x6, .int x7]) (.int 7) = some (.int x7) := rfl
  have b0 := hb x0 (by simp)
  have b1 := hb x1 (by simp)
  have b2 := hb x2 (by simp)
  have b3 := hb x3 (by simp)
  have b4 := hb x4 (by simp)
  have b5 := hb x5 (by simp)
  have b6 := hb x6 (by simp)
  have b7 := hb x7 (by simp)
  have en : enuL [.tup [.int x0, .int x1, .int x2, .int x3, .int x4, .int x5, .int x6, .int x7]] = some (enuD 0 [.int x0, .int x1, .int x2, .int x3, .int x4, .int x5, .int x6, .int x7]) := rfl
  refine ⟨?_, fun u v bu bv => ?_, by unfold ms; grind⟩
  · rw [fn_sides_of_eq]
    generalize D.tup [.int x0, .int x1, .int x2, .int x3, .int x4, .int x5, .int x6, .int x7] = T at *
    simp_arith [-enuL_t, sh_sides_of, ct1_sides_of, ce1_sides_of, ct2_sides_of, ce2_sides_of, en]
  · rw [fn__law_left_eq]
    generalize D.tup [.int x0, .int x1, .int x2, .int x3, .int x4, .int x5, .int x6, .int x7] = T at *
    simp_arith [sh__law_left, ct1__law_left, ce1__law_left, rngK_1, rngD_0, rngD_s, i0, i1, i2, i3, i4, i5, i6, i7]
theorem side_1 (x0 x1 x2 x3 x4 x5 x6 x7 : Int) (hb : ∀ x ∈ [x0, x1, x2, x3, x4, x5, x6, x7], B 70 x) : fn_sides_of [.tup [.int x0, .int x1, .int x2, .int x3, .int x4, .int x5, .int x6, .int x7], .int 1] = .ok (.tup [.lst [.int x0, .int x1, .int x4, .int x5], .lst [.int x2, .int x3, .int x6, .int x7]]) ∧
    (∀ u v : Int, B 400 u → B 400 v → fn__law_left [.tup [.int x0, .int x1, .int x2, .int x3, .int x4, .int x5, .int x6, .int x7], .int 1, .tup [.int u, .int v]] = .ok (.lst [.int (v * x0 + u * x2), .int (v * x1 + u * x3), .int (v * x4 + u * x6), .int (v * x5 + u * x7)])) ∧
    (x0 * x7 + x2 * x5 - x1 * x6 - x3 * x4) * (x0 * x7 + x2 * x5 - x1 * x6 - x3 * x4) - 4 * (x2 * x7 - x3 * x6) * (x0 * x5 - x1 * x4) = ms x0 x1 x2 x3 x4 x5 x6 x7 := by
  have i0 : idxD (.tup [.int x0, .int x1, .int x2, .int x3, .int x4, .int x5, .int x6, .int x7]) (.int 0) = some (.int x0) := rfl
  have i1 : idxD (.tup [.int x0, .int x1, .int x2, .int x3, .int x4, .int x5, .int x6, .int x7]) (.int 1) = some (.int x1) := rfl
  have i2 : idxD (.tup [.int x0, .int x1, .int x2, .int x3, .int x4, .int x5, .int x6, .int x7]) (.int 2) = some (.int x2) := rfl
  have i3 : idxD (.tup [.int x0, .int x1, .int x2, .int x3, .int x4, .int x5, .int x6, .int x7]) (.int 3) = some (.int x3) := rfl
  have i4 : idxD (.tup [.int x0, .int x1, .int x2, .int x3, .int x4, .int x5, .int x6, .int x7]) (.int 4) = some (.int x4) := rfl
  have i5 : idxD (.tup [.int x0, .int x1, .int x2, .int x3, .int x4, .int x5, .int x6, .int x7]) (.int 5) = some (.int x5) := rfl
  have i6 : idxD (.tup [.int x0, .int x1, .int x2, .int x3, .int x4, .int x5, .int x6, .int x7]) (.int 6) = some (.int x6) := rfl
  have i7 : idxD (.tup [.int x0, .int x1, .int x2, .int x3, .int x4, .int x5, .int x6, .int x7]) (.int 7) = some (.int x7) := rfl
  have b0 := hb x0 (by simp)
  have b1 := hb x1 (by simp)
  have b2 := hb x2 (by simp)
  have b3 := hb x3 (by simp)
  have b4 := hb x4 (by simp)
  have b5 := hb x5 (by simp)
  have b6 := hb x6 (by simp)
  have b7 := hb x7 (by simp)
  have en : enuL [.tup [.int x0, .int x1, .int x2, .int x3, .int x4, .int x5, .int x6, .int x7]] = some (enuD 0 [.int x0, .int x1, .int x2, .int x3, .int x4, .int x5, .int x6, .int x7]) := rfl
  refine ⟨?_, fun u v bu bv => ?_, by unfold ms; grind⟩
  · rw [fn_sides_of_eq]
    generalize D.tup [.int x0, .int x1, .int x2, .int x3, .int x4, .int x5, .int x6, .int x7] = T at *
    simp_arith [-enuL_t, sh_sides_of, ct1_sides_of, ce1_sides_of, ct2_sides_of, ce2_sides_of, en]
  · rw [fn__law_left_eq]
    generalize D.tup [.int x0, .int x1, .int x2, .int x3, .int x4, .int x5, .int x6, .int x7] = T at *
    simp_arith [sh__law_left, ct1__law_left, ce1__law_left, rngK_1, rngD_0, rngD_s, i0, i1, i2, i3, i4, i5, i6, i7]
theorem side_2 (x0 x1 x2 x3 x4 x5 x6 x7 : Int) (hb : ∀ x ∈ [x0, x1, x2, x3, x4, x5, x6, x7], B 70 x) : fn_sides_of [.tup [.int x0, .int x1, .int x2, .int x3, .int x4, .int x5, .int x6, .int x7], .int 2] = .ok (.tup [.lst [.int x0, .int x2, .int x4, .int x6], .lst [.int x1, .int x3, .int x5, .int x7]]) ∧
    (∀ u v : Int, B 400 u → B 400 v → fn__law_left [.tup [.int x0, .int x1, .int x2, .int x3, .int x4, .int x5, .int x6, .int x7], .int 2, .tup [.int u, .int v]] = .ok (.lst [.int (v * x0 + u * x1), .int (v * x2 + u * x3), .int (v * x4 + u * x5), .int (v * x6 + u * x7)])) ∧
    (x0 * x7 + x1 * x6 - x2 * x5 - x3 * x4) * (x0 * x7 + x1 * x6 - x2 * x5 - x3 * x4) - 4 * (x1 * x7 - x3 * x5) * (x0 * x6 - x2 * x4) = ms x0 x1 x2 x3 x4 x5 x6 x7 := by
  have i0 : idxD (.tup [.int x0, .int x1, .int x2, .int x3, .int x4, .int x5, .int x6, .int x7]) (.int 0) = some (.int x0) := rfl
  have i1 : idxD (.tup [.int x0, .int x1, .int x2, .int x3, .int x4, .int x5, .int x6, .int x7]) (.int 1) = some (.int x1) := rfl
  have i2 : idxD (.tup [.int x0, .int x1, .int x2, .int x3, .int x4, .int x5, .int x6, .int x7]) (.int 2) = some (.int x2) := rfl
  have i3 : idxD (.tup [.int x0, .int x1, .int x2, .int x3, .int x4, .int x5, .int x6, .int x7]) (.int 3) = some (.int x3) := rfl
  have i4 : idxD (.tup [.int x0, .int x1, .int x2, .int x3, .int x4, .int x5, .int x6, .int x7]) (.int 4) = some (.int x4) := rfl
  have i5 : idxD (.tup [.int x0, .int x1, .int x2, .int x3, .int x4, .int x5, .int x6, .int x7]) (.int 5) = some (.int x5) := rfl
  have i6 : idxD (.tup [.int x0, .int x1, .int x2, .int x3, .int x4, .int x5, .int x6, .int x7]) (.int 6) = some (.int x6) := rfl
  have i7 : idxD (.tup [.int x0, .int x1, .int x2, .int x3, .int x4, .int x5, .int x6, .int x7]) (.int 7) = some (.int x7) := rfl
  have b0 := hb x0 (by simp)
  have b1 := hb x1 (by simp)
  have b2 := hb x2 (by simp)
  have b3 := hb x3 (by simp)
  have b4 := hb x4 (by simp)
  have b5 := hb x5 (by simp)
  have b6 := hb x6 (by simp)
  have b7 := hb x7 (by simp)
  have en : enuL [.tup [.int x0, .int x1, .int x2, .int x3, .int x4, .int x5, .int x6, .int x7]] = some (enuD 0 [.int x0, .int x1, .int x2, .int x3, .int x4, .int x5, .int x6, .int x7]) := rfl
  refine ⟨?_, fun u v bu bv => ?_, by unfold ms; grind⟩
  · rw [fn_sides_of_eq]
    generalize D.tup [.int x0, .int x1, .int x2, .int x3, .int x4, .int x5, .int x6, .int x7] = T at *
    simp_arith [-enuL_t, sh_sides_of, ct1_sides_of, ce1_sides_of, ct2_sides_of, ce2_sides_of, en]
  · rw [fn__law_left_eq]
    generalize D.tup [.int x0, .int x1, .int x2, .int x3, .int x4, .int x5, .int x6, .int x7] = T at *
    simp_arith [sh__law_left, ct1__law_left, ce1__law_left, rngK_1, rngD_0, rngD_s, i0, i1, i2, i3, i4, i5, i6, i7]
theorem quadof_eq (E : D) (w s0 s1 s2 s3 t0 t1 t2 t3 : Int) (e : fn_sides_of [E, .int w] = .ok (.tup [.lst [.int s0, .int s1, .int s2, .int s3], .lst [.int t0, .int t1, .int t2, .int t3]])) (hb : ∀ x ∈ [s0, s1, s2, s3, t0, t1, t2, t3], B 70 x) :
    fn_quadratic_of [E, .int w] = .ok (.tup [.int (t0 * t3 - t1 * t2), .int (s0 * t3 + t0 * s3 - s1 * t2 - t1 * s2), .int (s0 * s3 - s1 * s2)]) := by
  have b0 := hb s0 (by simp); have b1 := hb s1 (by simp); have b2 := hb s2 (by simp); have b3 := hb s3 (by simp)
  have c0 := hb t0 (by simp); have c1 := hb t1 (by simp); have c2 := hb t2 (by simp); have c3 := hb t3 (by simp)
  rw [fn_quadratic_of_eq]
  clear hb
  simp_arith [sh_quadratic_of, e]
theorem cross_eq (a b c d : Int) (ha : B 600 a) (hb : B 600 b) (hc : B 600 c) (hd : B 600 d) : fn__law_crosswise [.lst [.int a, .int b, .int c, .int d]] = .ok (.int (a * d - b * c)) := by
  rw [fn__law_crosswise_eq]
  simp_arith [sh__law_crosswise]
theorem lwhole_i (a : Int) : fn__law_whole [.int a] = .ok (.bl true) := by
  rw [fn__law_whole_eq]
  simp_arith [sh__law_whole, Ty.s]
theorem lroot_eq (n r : Int) (h : 0 ≤ r) (hb : B 400 n) (h1 : r * r ≤ n) (h2 : n < (r + 1) * (r + 1)) : fn__law_root [.int n] = .ok (.int r) := by
  rw [fn__law_root_eq]
  by_cases c : n < 2
  · have : r = n := by
      have n0 : 0 ≤ n := by
        have := Int.mul_nonneg h h
        omega
      have : n = 0 ∨ n = 1 := by omega
      rcases this with z | z
      · rw [z]; exact sq_uniq 0 r 0 h (by decide) (by omega) (by omega) (by decide) (by decide)
      · rw [z]; exact sq_uniq 1 r 1 h (by decide) (by omega) (by omega) (by decide) (by decide)
    subst this
    simp_arith [sh__law_root, c]
  · have hl : n.natAbs.log2 < 400 := (Nat.log2_lt (by omega)).mpr hb
    have eb : Builtin.Int.intBits n = n.natAbs.log2 + 1 := by
      unfold Builtin.Int.intBits
      rw [if_neg (by simp; omega)]
    have hk2 : n.natAbs < 2 ^ (n.natAbs.log2 + 1) := Nat.lt_log2_self
    generalize hk : n.natAbs.log2 = k at *
    obtain ⟨j, hj, j1, j2⟩ : ∃ j : Nat, ((k + 1 : Nat) : Int) / 2 + 1 = (j : Int) ∧ j ≤ 201 ∧ k + 1 ≤ 2 * j := ⟨(k + 1) / 2 + 1, by omega, by omega, by omega⟩
    have ok : shlOk 1 (j : Int) = true := by
      unfold shlOk
      have i1 : Builtin.Int.intBits 1 = 1 := by decide
      rw [i1, decide_eq_true (by omega), decide_eq_true (by omega)]
      rfl
    have p0 : (0 : Int) < 2 ^ j := Int.pow_pos (by decide)
    have ej : (1 * 2 ^ j : Int) = ((2 ^ j : Nat) : Int) := by rw [Int.one_mul]; exact (Int.natCast_pow 2 j).symm
    have esh : shlD (.int 1) (.int (j : Int)) = some (.int (1 * 2 ^ j)) := by
      rw [shlD_i, if_pos ok]
      rfl
    have ebit : bitD (.int n) = some (.int ((k + 1 : Nat) : Int)) := by rw [bitD_i, eb]
    have sB : B 1500 (1 * 2 ^ j : Int) := by
      rw [ej]
      unfold B
      rw [Int.natAbs_natCast]
      exact Nat.pow_lt_pow_right (by decide) (by omega)
    have sq : n < (1 * 2 ^ j + 1 : Int) * (1 * 2 ^ j + 1) := by
      have q : (2 : Nat) ^ (k + 1) ≤ 2 ^ (2 * j) := Nat.pow_le_pow_right (by decide) j2
      have q2 : (2 : Nat) ^ (2 * j) = 2 ^ j * 2 ^ j := by rw [← Nat.pow_add]; congr 1; omega
      have q3 : n < ((2 ^ j * 2 ^ j : Nat) : Int) := by omega
      rw [ej]
      rw [Int.natCast_mul] at q3
      have p1 : (0 : Int) < ((2 ^ j : Nat) : Int) := by rw [← ej]; omega
      generalize ((2 ^ j : Nat) : Int) = s at *
      have : (s + 1) * (s + 1) = s * s + 2 * s + 1 := by grind
      omega
    have s1 : (0 : Int) < 1 * 2 ^ j := by omega
    generalize (1 * 2 ^ j : Int) = s at *
    have s0 : s ≠ 0 := by omega
    have sB' : B 8999 s := sB.mono (by decide)
    obtain ⟨f', l', e1, e2, e3, e4⟩ := root2 n (by omega) (s.natAbs + 1) s (Nat.lt_succ_self _) s1 sB sq
    have hf : f' = r := sq_uniq n f' r (by omega) h e3 e4 h1 h2
    subst hf
    have w1 : sWhl [] fuel__law_root lc1__law_root lb1__law_root [.va (.int n), .va (.int s), .va (.int ((s + n / s) / 2))] = .nx [.va (.int n), .va (.int f'), .va (.int l')] := e1
    have dv2 : fdivD (.int n) (.int s) = some (.int (n / s)) := fdivD_p (divOk_B s0 sB') (by omega)
    have dv3 : fdivD (.int (s + n / s)) (.int 2) = some (.int ((s + n / s) / 2)) := fdivD_p (divOk_B (by decide) ((B.lit 2).mono (by decide))) (by decide)
    have dv : fdivD (.int ((k + 1 : Nat) : Int)) (.int 2) = some (.int (((k + 1 : Nat) : Int) / 2)) := fdivD_p (divOk_B (by decide) ((B.lit 2).mono (by decide))) (by decide)
    generalize ((k + 1 : Nat) : Int) = b at *
    simp_arith [-bitD_i, -shlD_i, -fdivD_p, sh__law_root, c, ebit, dv, hj, esh, dv2, dv3, w1]
theorem isqrt_ex : ∀ n : Nat, ∃ r : Nat, r * r ≤ n ∧ n < (r + 1) * (r + 1)
  | 0 => ⟨0, by decide, by decide⟩
  | n + 1 => by
    obtain ⟨r, h1, h2⟩ := isqrt_ex n
    by_cases c : n + 1 < (r + 1) * (r + 1)
    · exact ⟨r, by omega, c⟩
    · refine ⟨r + 1, by omega, ?_⟩
      have : (r + 1 + 1) * (r + 1 + 1) = (r + 1) * (r + 1) + 2 * r + 3 := by grind
      omega
/-- how many roots are due -/
def Mn (m k : Int) : Prop := (m < 0 ∧ k = 0) ∨ (m = 0 ∧ k = 1) ∨ (∃ r, 0 < r ∧ r * r = m ∧ B 300 r ∧ k = 2) ∨ (∃ r, 0 < r ∧ r * r < m ∧ m < (r + 1) * (r + 1) ∧ B 300 r ∧ k = 0)
theorem many_ex (m : Int) (hb : B 300 m) : ∃ k, fn__law_many [.int m] = .ok (.int k) ∧ Mn m k := by
  rw [fn__law_many_eq]
  by_cases h : m < 0
  · refine ⟨0, ?_, .inl ⟨h, rfl⟩⟩
    simp_arith [sh__law_many, h]
  · by_cases h0 : m = 0
    · subst h0
      refine ⟨1, ?_, .inr (.inl ⟨rfl, rfl⟩)⟩
      simp_arith [sh__law_many]
    · obtain ⟨r, h1, h2⟩ := isqrt_ex m.toNat
      have g1 : (r : Int) * r ≤ m := by
        have : ((r * r : Nat) : Int) ≤ m := by omega
        rwa [Int.natCast_mul] at this
      have g2 : m < ((r : Int) + 1) * ((r : Int) + 1) := by
        have : m < (((r + 1) * (r + 1) : Nat) : Int) := by omega
        rw [Int.natCast_mul] at this
        simpa using this
      have r0 : (0 : Int) < r := by
        have : r ≠ 0 := fun z => by subst z; omega
        omega
      have rB : B 300 (r : Int) := by
        have : (r : Int) * 1 ≤ r * r := Int.mul_le_mul_of_nonneg_left (by omega) (by omega)
        unfold B at *
        omega
      have lr := lroot_eq m r (by omega) (hb.mono (by decide)) g1 g2
      generalize (r : Int) = ρ at *
      by_cases e : ρ * ρ = m
      · refine ⟨2, ?_, .inr (.inr (.inl ⟨ρ, r0, e, rB, rfl⟩))⟩
        simp_arith [sh__law_many, h, h0, lr, e, show intL [.bl true] = some (.int 1) from rfl, show intL [.bl false] = some (.int 0) from rfl]
      · refine ⟨0, ?_, .inr (.inr (.inr ⟨ρ, r0, by omega, g2, rB, rfl⟩))⟩
        simp_arith [sh__law_many, h, h0, lr, e, show intL [.bl true] = some (.int 1) from rfl, show intL [.bl false] = some (.int 0) from rfl]
/-! values -/
theorem val_loop (s0 : Sl) : ∀ (n f o : Nat), o < n → whileF [] lc1__law_value lb1__law_value n [s0, .va (.int f), .va (.int o)] = .nx [s0, .va (.int (Nat.gcd f o : Nat)), .va (.int 0)]
  | 0, f, o, h => absurd h (Nat.not_lt_zero _)
  | n + 1, f, o, h => by
    by_cases ho : o = 0
    · subst ho
      rw [whileF_end (δ1 := [s0, .va (.int f), .va (.int (0 : Nat))]) (by simp_arith [lc1__law_value])]
      simp
    · have h1 : f % o < o := Nat.mod_lt _ (by omega)
      have c1 : lc1__law_value [s0, .va (.int f), .va (.int o)] = .ok (.bl true) [s0, .va (.int f), .va (.int o)] := by
        have : ¬ (o : Int) = 0 := by omega
        simp_arith [lc1__law_value, this, ho]
      have c2 : lb1__law_value [s0, .va (.int f), .va (.int o)] = .nx [s0, .va (.int o), .va (.int (f % o : Nat))] := by
        have : 0 < (o : Int) := by omega
        have m : modD (.int f) (.int o) = some (.int ((f % o : Nat) : Int)) := by rw [modD_p this]; rfl
        simp_arith [-modD_p, lb1__law_value, m]
      rw [whileF_step c1 c2]
      show whileF [] _ _ n [s0, .va (.int o), .va (.int (f % o : Nat))] = _
      have g : Nat.gcd o (f % o) = Nat.gcd f o := by rw [Nat.gcd_comm o (f % o), ← Nat.gcd_rec, Nat.gcd_comm]
      rw [val_loop s0 n o (f % o) (by omega), g]
theorem lvalue_far : fn__law_value [vl 1 0] = .ok (.bl true) := by
  rw [fn__law_value_eq]
  have w := lwhole_i
  unfold vl
  simp_arith [sh__law_value, w, Ty.s]
theorem lvalue_q (q : Rat) : fn__law_value [vl q.num (q.den : Int)] = .ok (.bl true) := by
  rw [fn__law_value_eq]
  have w := lwhole_i
  have d0 := q.den_pos
  have hd : ¬ (q.den : Int) = 0 := by omega
  have hd2 : 0 < (q.den : Int) := by omega
  have step : ∀ s0 : Sl, sWhl [] fuel__law_value lc1__law_value lb1__law_value [s0, .va (.int q.num), .va (.int (q.den : Int))] = .nx [s0, .va (.int 1), .va (.int 0)] := fun s0 => by
    have em0 := Int.emod_nonneg q.num hd
    have em1 := Int.emod_lt_of_pos q.num hd2
    have c1 : lc1__law_value [s0, .va (.int q.num), .va (.int (q.den : Int))] = .ok (.bl true) [s0, .va (.int q.num), .va (.int (q.den : Int))] := by
      simp_arith [lc1__law_value, hd, show ¬ q.den = 0 by omega]
    have c2 : lb1__law_value [s0, .va (.int q.num), .va (.int (q.den : Int))] = .nx [s0, .va (.int (q.den : Int)), .va (.int (((q.num % (q.den : Int)).toNat : Nat) : Int))] := by
      have m : modD (.int q.num) (.int (q.den : Int)) = some (.int (((q.num % (q.den : Int)).toNat : Nat) : Int)) := by rw [modD_p hd2, Int.toNat_of_nonneg em0]
      simp_arith [-modD_p, lb1__law_value, m]
    show whileF [] lc1__law_value lb1__law_value (((q.den : Int)).natAbs + 1) [s0, .va (.int q.num), .va (.int (q.den : Int))] = _
    rw [whileF_step c1 c2]
    show whileF [] lc1__law_value lb1__law_value (((q.den : Int)).natAbs) [s0, .va (.int (q.den : Int)), .va (.int (((q.num % (q.den : Int)).toNat : Nat) : Int))] = _
    rw [val_loop s0 _ q.den (q.num % (q.den : Int)).toNat (by omega)]
    have g : Nat.gcd q.den (q.num % (q.den : Int)).toNat = 1 := by
      have r := q.reduced
      have e2 : Int.gcd q.num (q.den : Int) = 1 := r
      have e1 := gcd_fmod q.num (q.den : Int)
      rw [Int.fmod_eq_emod_of_nonneg _ (by omega), e2] at e1
      have e3 : Int.gcd (q.den : Int) (q.num % (q.den : Int)) = Nat.gcd q.den (q.num % (q.den : Int)).natAbs := rfl
      rw [e3] at e1
      have e4 : (q.num % (q.den : Int)).natAbs = (q.num % (q.den : Int)).toNat := by omega
      rw [e4] at e1
      exact e1
    rw [g]
    rfl
  unfold vl
  generalize (q.den : Int) = d at *
  generalize q.num = n at *
  simp_arith [sh__law_value, w, Ty.s, hd, hd2, step]
theorem lvalue_v {u v : Int} (h : (u = 1 ∧ v = 0) ∨ ∃ q : Rat, u = q.num ∧ v = q.den) : fn__law_value [vl u v] = .ok (.bl true) := by
  rcases h with ⟨rfl, rfl⟩ | ⟨q, rfl, rfl⟩
  · exact lvalue_far
  · exact lvalue_q q
/-! the roots -/
def IV (u v : Int) : Prop := (u = 1 ∧ v = 0) ∨ ∃ q : Rat, u = q.num ∧ v = q.den
def far : D := vl 1 0
theorem fr_vl (q : Rat) : fr q = vl q.num (q.den : Int) := rfl
theorem wsq_0 (c : Int) : fn_without_square [.int 0, .int c] = .ow (.lst [far]) := by
  rw [fn_without_square_eq]
  have : cv_FAR = far := rfl
  generalize far = F at *
  simp_arith [sh_without_square, this]
theorem wsq_1 (b c : Int) (q : Rat) (h : b ≠ 0) (bc : B 2000 c) (e : fn_value [.int (0 - c), .int b] = .ok (fr q)) : fn_without_square [.int b, .int c] = .ow (.lst [fr q, far]) := by
  rw [fn_without_square_eq]
  have hf : cv_FAR = far := rfl
  rw [Int.zero_sub] at e
  generalize far = F at *
  generalize fr q = G at *
  simp_arith [sh_without_square, hf, h, e]
theorem rof_n (E : D) (w : Int) (hq : fn_quadratic_of [E, .int w] = .ok (.tup [.int 0, .int 0, .int 0])) : fn_roots_of [E, .int w] = .ok .non := by
  rw [fn_roots_of_eq]
  simp_arith [sh_roots_of, hq]
theorem rof_l (E : D) (w b c : Int) (T : O) (h : ¬(b = 0 ∧ c = 0)) (hq : fn_quadratic_of [E, .int w] = .ok (.tup [.int 0, .int b, .int c])) (e : fn_without_square [.int b, .int c] = .ow T) : fn_roots_of [E, .int w] = .ow T := by
  rw [fn_roots_of_eq]
  by_cases hb : b = 0
  · have hc : ¬ c = 0 := fun hc => h ⟨hb, hc⟩
    subst hb
    simp_arith [sh_roots_of, hq, hc, e]
  · simp_arith [sh_roots_of, hq, hb, e]
theorem rof_e (E : D) (w a b c : Int) (ha : a ≠ 0) (ba : B 300 a) (bb : B 300 b) (bc : B 300 c) (hq : fn_quadratic_of [E, .int w] = .ok (.tup [.int a, .int b, .int c])) (hl : b * b - 4 * a * c < 0) : fn_roots_of [E, .int w] = .ow (.lst []) := by
  rw [fn_roots_of_eq]
  simp_arith [sh_roots_of, hq, ha, hl]
theorem rof_x (E : D) (w a b c ρ : Int) (ha : a ≠ 0) (ba : B 300 a) (bb : B 300 b) (bc : B 300 c) (bρ : B 700 ρ) (hq : fn_quadratic_of [E, .int w] = .ok (.tup [.int a, .int b, .int c])) (h0 : 0 ≤ ρ) (hs : ρ * ρ < b * b - 4 * a * c) (hs2 : b * b - 4 * a * c < (ρ + 1) * (ρ + 1)) : fn_roots_of [E, .int w] = .ow (.lst []) := by
  rw [fn_roots_of_eq]
  have wr := root_eq (b * b - 4 * a * c) ρ h0 (bρ.mono (by decide)) (by omega) hs2
  have hl : ¬ b * b - 4 * a * c < 0 := by
    have := Int.mul_nonneg h0 h0
    omega
  have hn : ¬ ρ * ρ = b * b - 4 * a * c := by omega
  clear hs hs2
  simp_arith [sh_roots_of, hq, ha, hl, wr, hn]
theorem rof_q (E : D) (w a b c ρ : Int) (r s : Rat) (ha : a ≠ 0) (ba : B 300 a) (bb : B 300 b) (bc : B 300 c) (bρ : B 700 ρ) (hq : fn_quadratic_of [E, .int w] = .ok (.tup [.int a, .int b, .int c])) (h0 : 0 ≤ ρ) (hs : ρ * ρ = b * b - 4 * a * c) (e1 : fn_value [.int (0 - b - ρ), .int (2 * a)] = .ok (fr r)) (e2 : fn_value [.int (ρ - b), .int (2 * a)] = .ok (fr s)) (br : BR 2000 r) (bs : BR 2000 s) :
    fn_roots_of [E, .int w] = .ow (.lst (if r = s then [fr r] else if s < r then [fr s, fr r] else [fr r, fr s])) := by
  rw [fn_roots_of_eq]
  have wr := root_eq (ρ * ρ) ρ h0 (bρ.mono (by decide)) (Int.le_refl _) (by
    have : (ρ + 1) * (ρ + 1) = ρ * ρ + 2 * ρ + 1 := by grind
    omega)
  have un := under_eq s r bs br
  have ce := cop_eq_fr (p := r) (q := s)
  have hl : ¬ b * b - 4 * a * c < 0 := by
    have := Int.mul_nonneg h0 h0
    omega
  rw [hs] at wr
  rw [Int.zero_sub] at e1
  generalize fr r = R' at *
  generalize fr s = S' at *
  by_cases c1 : r = s
  · rw [if_pos c1]
    rw [decide_eq_true c1] at ce
    simp_arith [sh_roots_of, hq, ha, hl, wr, hs, e1, e2, ce]
  · rw [if_neg c1]
    rw [decide_eq_false c1] at ce
    by_cases c2 : s < r
    · rw [if_pos c2]
      rw [decide_eq_true c2] at un
      simp_arith [sh_roots_of, hq, ha, hl, wr, hs, e1, e2, ce, un]
    · rw [if_neg c2]
      rw [decide_eq_false c2] at un
      simp_arith [sh_roots_of, hq, ha, hl, wr, hs, e1, e2, ce, un]
theorem roots_n (E : D) (w : Int) (i8 : fn_is_eight [E] = .ok (.bl true)) (e : fn_roots_of [E, .int w] = .ok .non) : fn_roots [E, .int w] = .ok .non := by
  have lo : fn_look_at_eight [E] = .ok .non := by
    rw [fn_look_at_eight_eq]
    simp_arith [sh_look_at_eight, i8]
  rw [fn_roots_eq]
  simp_arith [sh_roots, lo, e]
theorem roots_o (E : D) (w : Int) (T : O) (i8 : fn_is_eight [E] = .ok (.bl true)) (e : fn_roots_of [E, .int w] = .ow T) : fn_roots [E, .int w] = .ow T := by
  have lo : fn_look_at_eight [E] = .ok .non := by
    rw [fn_look_at_eight_eq]
    simp_arith [sh_look_at_eight, i8]
  rw [fn_roots_eq]
  simp_arith [sh_roots, lo, e]
def vp (p : Int × Int) : D := vl p.1 p.2
def Rts (a b c : Int) (ps : List (Int × Int)) (k : Int) : Prop := (ps.length : Int) = k ∧ (∀ p ∈ ps, IV p.1 p.2 ∧ B 400 p.1 ∧ B 400 p.2 ∧ a * p.1 * p.1 + b * p.1 * p.2 + c * p.2 * p.2 = 0) ∧ (ps.length < 2 ∨ ∃ p q : Int × Int, ps = [p, q] ∧ p.1 * q.2 < q.1 * p.2)
theorem q_zero (a b c ρ t u v : Int) (ha : a ≠ 0) (hs : ρ * ρ = b * b - 4 * a * c) (ht : (t + b) * (t + b) = ρ * ρ) (hu : u * (2 * a) = t * v) : a * u * u + b * u * v + c * v * v = 0 := by
  have h : 4 * a * (a * u * u + b * u * v + c * v * v) = 0 := by
    have e1 : 4 * a * (a * u * u + b * u * v + c * v * v) = (u * (2 * a)) * (u * (2 * a)) + 2 * b * (u * (2 * a)) * v + 4 * a * c * v * v := by grind
    rw [e1, hu]
    have e2 : (t * v) * (t * v) + 2 * b * (t * v) * v + 4 * a * c * v * v = ((t + b) * (t + b) - (b * b - 4 * a * c)) * (v * v) := by grind
    rw [e2, ht, hs]
    grind
  have : 4 * a ≠ 0 := by omega
  rcases Int.mul_eq_zero.mp h with z | z
  · exact absurd z this
  · exact z
theorem num_of {t b : Int} (hb : b ≠ 0) : (Rat.divInt t b).num * b = t * ((Rat.divInt t b).den : Int) := by
  have h := Rat.num_divInt_den (Rat.divInt t b)
  exact (Rat.divInt_eq_divInt_iff (by have := (Rat.divInt t b).den_pos; omega) hb).mp h
theorem roots_ex (E : D) (w a b c m k : Int) (i8 : fn_is_eight [E] = .ok (.bl true)) (hq : fn_quadratic_of [E, .int w] = .ok (.tup [.int a, .int b, .int c])) (nz : ¬(a = 0 ∧ b = 0 ∧ c = 0)) (hm : b * b - 4 * a * c = m) (ba : B 200 a) (bb : B 200 b) (bc : B 200 c) (hk : Mn m k) : ∃ ps, fn_roots [E, .int w] = .ow (.lst (ps.map vp)) ∧ Rts a b c ps k := by
  have sqp : ∀ r : Int, r ≠ 0 → 0 < r * r := fun r h => by
    rcases Int.lt_or_gt_of_ne h with z | z
    · exact Int.mul_pos_of_neg_of_neg z z
    · exact Int.mul_pos z z
  by_cases ha : a = 0
  · subst ha
    by_cases hb : b = 0
    · subst hb
      have m0 : m = 0 := by omega
      have k1 : k = 1 := by
        rcases hk with ⟨h, _⟩ | ⟨_, h⟩ | ⟨r, r0, e, _⟩ | ⟨r, r0, e, _⟩
        · omega
        · exact h
        · have := sqp r (by omega); omega
        · have := sqp r (by omega); omega
      subst k1
      refine ⟨[(1, 0)], roots_o E w _ i8 (rof_l E w 0 c _ (fun z => nz ⟨rfl, rfl, z.2⟩) hq (wsq_0 c)), rfl, fun p hp => ?_, .inl (by simp)⟩
      simp only [List.mem_singleton] at hp
      subst hp
      exact ⟨.inl ⟨rfl, rfl⟩, by unfold B; decide, by unfold B; decide, by simp⟩
    · have mb : m = b * b := by omega
      have k2 : k = 2 := by
        have bp := sqp b hb
        rcases hk with ⟨h, _⟩ | ⟨h, _⟩ | ⟨r, r0, e, _, h⟩ | ⟨r, r0, e1, e2, _⟩
        · omega
        · omega
        · exact h
        · exfalso
          have ab : (b.natAbs : Int) * (b.natAbs : Int) = b * b := Int.natAbs_mul_self
          have e3 : (b.natAbs : Int) * (b.natAbs : Int) < ((b.natAbs : Int) + 1) * ((b.natAbs : Int) + 1) := by
            have : ((b.natAbs : Int) + 1) * ((b.natAbs : Int) + 1) = (b.natAbs : Int) * (b.natAbs : Int) + 2 * (b.natAbs : Int) + 1 := by grind
            omega
          have := sq_uniq m r (b.natAbs : Int) (by omega) (by omega) (by omega) e2 (by omega) (by omega)
          rw [this] at e1
          omega
      subst k2
      have v := value_eq (0 - c) b hb (bb.mono (by decide))
      have hn := num_of (t := 0 - c) hb
      have bq : BR 200 (Rat.divInt (0 - c) b) := BR.divInt hb (by unfold B at *; omega) bb
      have dp := (Rat.divInt (0 - c) b).den_pos
      refine ⟨[((Rat.divInt (0 - c) b).num, ((Rat.divInt (0 - c) b).den : Int)), (1, 0)], roots_o E w _ i8 (rof_l E w b c _ (fun z => nz ⟨rfl, z⟩) hq (wsq_1 b c _ hb (bc.mono (by decide)) v)), rfl, fun p hp => ?_, .inr ⟨_, _, rfl, ?_⟩⟩
      · simp only [List.mem_cons, List.not_mem_nil, or_false] at hp
        rcases hp with rfl | rfl
        · refine ⟨.inr ⟨_, rfl, rfl⟩, bq.1.mono (by decide), bq.2.mono (by decide), ?_⟩
          dsimp only
          generalize (Rat.divInt (0 - c) b).num = u at *
          generalize ((Rat.divInt (0 - c) b).den : Int) = v at *
          grind
        · exact ⟨.inl ⟨rfl, rfl⟩, by unfold B; decide, by unfold B; decide, by simp⟩
      · dsimp only
        omega
  · have a2 : 2 * a ≠ 0 := by omega
    have b2 : B 300 (2 * a) := (B.mul (B.lit 2) ba).mono (by decide)
    have up : ∀ {x : Int}, B 200 x → B 300 x := fun h => h.mono (by decide)
    have main : ∀ ρ : Int, 0 ≤ ρ → ρ * ρ = m → B 300 ρ → (k = if ρ = 0 then 1 else 2) → ∃ ps, fn_roots [E, .int w] = .ow (.lst (ps.map vp)) ∧ Rts a b c ps k := fun ρ r0 e rB hk => by
      have e1 := value_eq (0 - b - ρ) (2 * a) a2 (b2.mono (by decide))
      have e2 := value_eq (ρ - b) (2 * a) a2 (b2.mono (by decide))
      have n1 := num_of (t := 0 - b - ρ) a2
      have n2 := num_of (t := ρ - b) a2
      have br1 : BR 400 (Rat.divInt (0 - b - ρ) (2 * a)) := BR.divInt a2 ((B.sub (B.sub (B.lit 0) bb) rB).mono (by decide)) (b2.mono (by decide))
      have br2 : BR 400 (Rat.divInt (ρ - b) (2 * a)) := BR.divInt a2 ((B.sub rB bb).mono (by decide)) (b2.mono (by decide))
      have q1 : a * (Rat.divInt (0 - b - ρ) (2 * a)).num * (Rat.divInt (0 - b - ρ) (2 * a)).num + b * (Rat.divInt (0 - b - ρ) (2 * a)).num * ((Rat.divInt (0 - b - ρ) (2 * a)).den : Int) + c * ((Rat.divInt (0 - b - ρ) (2 * a)).den : Int) * ((Rat.divInt (0 - b - ρ) (2 * a)).den : Int) = 0 := q_zero a b c ρ (0 - b - ρ) _ _ ha (by omega) (by grind) n1
      have q2 : a * (Rat.divInt (ρ - b) (2 * a)).num * (Rat.divInt (ρ - b) (2 * a)).num + b * (Rat.divInt (ρ - b) (2 * a)).num * ((Rat.divInt (ρ - b) (2 * a)).den : Int) + c * ((Rat.divInt (ρ - b) (2 * a)).den : Int) * ((Rat.divInt (ρ - b) (2 * a)).den : Int) = 0 := q_zero a b c ρ (ρ - b) _ _ ha (by omega) (by grind) n2
      have rq := roots_o E w _ i8 (rof_q E w a b c ρ _ _ ha (up ba) (up bb) (up bc) (rB.mono (by decide)) hq r0 (by omega) e1 e2 ⟨br1.1.mono (by decide), br1.2.mono (by decide)⟩ ⟨br2.1.mono (by decide), br2.2.mono (by decide)⟩)
      have eqr : Rat.divInt (0 - b - ρ) (2 * a) = Rat.divInt (ρ - b) (2 * a) ↔ ρ = 0 := by
        rw [Rat.divInt_eq_divInt_iff a2 a2]
        constructor
        · intro h
          have : (0 - b - ρ) = (ρ - b) := Int.eq_of_mul_eq_mul_right a2 h
          omega
        · intro h; subst h; simp
      have F1 : ∀ q : Rat, BR 400 q → a * q.num * q.num + b * q.num * (q.den : Int) + c * (q.den : Int) * (q.den : Int) = 0 → IV (q.num, (q.den : Int)).1 (q.num, (q.den : Int)).2 ∧ B 400 (q.num, (q.den : Int)).1 ∧ B 400 (q.num, (q.den : Int)).2 ∧ a * (q.num, (q.den : Int)).1 * (q.num, (q.den : Int)).1 + b * (q.num, (q.den : Int)).1 * (q.num, (q.den : Int)).2 + c * (q.num, (q.den : Int)).2 * (q.num, (q.den : Int)).2 = 0 := fun q hb hz => ⟨.inr ⟨q, rfl, rfl⟩, hb.1, hb.2, hz⟩
      generalize Rat.divInt (0 - b - ρ) (2 * a) = r at *
      generalize Rat.divInt (ρ - b) (2 * a) = s at *
      by_cases c1 : r = s
      · rw [if_pos c1] at rq
        rw [if_pos (eqr.mp c1)] at hk
        subst hk
        refine ⟨[(r.num, (r.den : Int))], rq, rfl, fun p hp => ?_, .inl (by simp)⟩
        simp only [List.mem_singleton] at hp
        subst hp
        exact F1 r br1 q1
      · rw [if_neg c1] at rq
        rw [if_neg (fun z => c1 (eqr.mpr z))] at hk
        subst hk
        by_cases c2 : s < r
        · rw [if_pos c2] at rq
          refine ⟨[(s.num, (s.den : Int)), (r.num, (r.den : Int))], rq, rfl, fun p hp => ?_, .inr ⟨_, _, rfl, (Rat.lt_iff s r).mp c2⟩⟩
          simp only [List.mem_cons, List.not_mem_nil, or_false] at hp
          rcases hp with rfl | rfl
          · exact F1 s br2 q2
          · exact F1 r br1 q1
        · rw [if_neg c2] at rq
          have c3 : r < s := by grind
          refine ⟨[(r.num, (r.den : Int)), (s.num, (s.den : Int))], rq, rfl, fun p hp => ?_, .inr ⟨_, _, rfl, (Rat.lt_iff r s).mp c3⟩⟩
          simp only [List.mem_cons, List.not_mem_nil, or_false] at hp
          rcases hp with rfl | rfl
          · exact F1 r br1 q1
          · exact F1 s br2 q2
    rcases hk with ⟨h, hk⟩ | ⟨h, hk⟩ | ⟨r, r0, e, rB, hk⟩ | ⟨r, r0, e1, e2, rB, hk⟩
    · subst hk
      exact ⟨[], roots_o E w _ i8 (rof_e E w a b c ha (up ba) (up bb) (up bc) hq (by omega)), rfl, fun p hp => (by cases hp), .inl (by simp)⟩
    · exact main 0 (by omega) (by omega) (by unfold B; decide) (by rw [if_pos rfl]; exact hk)
    · exact main r (by omega) e rB (by rw [if_neg (by omega)]; exact hk)
    · subst hk
      exact ⟨[], roots_o E w _ i8 (rof_x E w a b c r ha (up ba) (up bb) (up bc) (rB.mono (by decide)) hq (by omega) (by omega) (by omega)), rfl, fun p hp => (by cases hp), .inl (by simp)⟩
-- SPLIT
theorem llist_ok (E : D) (w k : Int) (ps : List (Int × Int)) (hk : (ps.length : Int) = k) (hp : ∀ p ∈ ps, fn__law_value [vp p] = .ok (.bl true) ∧ ∃ X, fn__law_left [E, .int w, vp p] = .ok X ∧ fn__law_crosswise [X] = .ok (.int 0)) (bp : ∀ p ∈ ps, B 400 p.1 ∧ B 400 p.2)
    (h2 : ps.length < 2 ∨ ∃ p q : Int × Int, ps = [p, q] ∧ p.1 * q.2 < q.1 * p.2) : fn__law_list [E, .int w, .lst (ps.map vp), .int k] = .ok (.bl true) := by
  rw [fn__law_list_eq]
  have lp : forF [4] (Tg.var 4).st lb1__law_list (ps.map vp) [.va E, .va (.int w), .va (.lst (ps.map vp)), .va (.int k), .no] = .nx [.va E, .va (.int w), .va (.lst (ps.map vp)), .va (.int k), .no] := by
    refine forF_fin fun d hd => ?_
    obtain ⟨p, hm, rfl⟩ := List.mem_map.mp hd
    obtain ⟨v, X, e1, e2⟩ := hp p hm
    refine ⟨_, rfl, ?_⟩
    clear hd hp h2
    generalize ps.map vp = L
    generalize vp p = V at *
    show finK [4] (lb1__law_list [.va E, .va (.int w), .va (.lst L), .va (.int k), .va V]) = _
    simp_arith [lb1__law_list, v, e1, e2, finK_nx]
  have ll : lenL [.lst (ps.map vp)] = some (.int k) := by
    rw [← hk]
    show some (D.int ((ps.map vp).length : Int)) = _
    rw [List.length_map]
  have il : isiD (Ty.s .lst) (.lst (ps.map vp)) = some (.bl true) := rfl
  rcases h2 with h | ⟨p, q, rfl, h⟩
  · have h' : k < 2 := by omega
    generalize ps.map vp = L at *
    simp_arith [sh__law_list, sFor_, kFor_ok, il, ll, lp, h']
  · obtain ⟨b1, b2⟩ := bp p (by simp)
    obtain ⟨b3, b4⟩ := bp q (by simp)
    have hk2 : k = 2 := by rw [← hk]; rfl
    subst hk2
    have i0 : idxD (.lst [vp p, vp q]) (.int 0) = some (vp p) := rfl
    have i1 : idxD (.lst [vp p, vp q]) (.int 1) = some (vp q) := rfl
    have a0 : idxD (vp p) (.int 0) = some (.int p.1) := rfl
    have a1 : idxD (vp p) (.int 1) = some (.int p.2) := rfl
    have a2 : idxD (vp q) (.int 0) = some (.int q.1) := rfl
    have a3 : idxD (vp q) (.int 1) = some (.int q.2) := rfl
    have sq : ∀ δ, seqK (.ok (.lst [vp p, vp q]) δ) = .ok [vp p, vp q] δ := fun _ => rfl
    have lp' : forF [4] (Tg.var 4).st lb1__law_list [vp p, vp q] [.va E, .va (.int w), .va (.lst [vp p, vp q]), .va (.int 2), .no] = .nx [.va E, .va (.int w), .va (.lst [vp p, vp q]), .va (.int 2), .no] := lp
    have ll' : lenL [.lst [vp p, vp q]] = some (.int 2) := ll
    have il' : isiD (Ty.s .lst) (.lst [vp p, vp q]) = some (.bl true) := rfl
    clear lp ll il hp bp
    show endD (sh__law_list [.va E, .va (.int w), .va (.lst [vp p, vp q]), .va (.int 2), .no]) = _
    generalize vp p = P at *
    generalize vp q = Q' at *
    generalize hL : D.lst [P, Q'] = L at *
    simp_arith [sh__law_list, sFor_, kFor_ok, il', ll', lp', i0, i1, a0, a1, a2, a3, h, sq]
theorem vp_flat (p : Int × Int) : flat (vp p) = true := by unfold vp vl; simp only [flat_t, flats_c, flats_n, flat_i, Bool.and_self]
theorem vps_flat : ∀ ps : List (Int × Int), flats (ps.map vp) = true
  | [] => flats_n
  | p :: ps => by rw [List.map_cons, flats_c, vp_flat, vps_flat ps]; rfl
theorem vps_shp : ∀ ps : List (Int × Int), shps 63 (ps.map vp) = true
  | [] => shps_n
  | p :: ps => by rw [List.map_cons, shps_c, vps_shp ps]; unfold vp vl; rw [shp_t, shps_c, shps_c, shps_n, shp_i, shp_i]; rfl
/-- one scale, its quadratic 0 everywhere -/
theorem w_none (s0 s1 s2 : Sl) (E X0 X1 X2 : D) (n w : Int) (nB : B 10 n) (e : fn_roots [E, .int w] = .ok .non)
    (l0 : fn__law_left [E, .int w, .tup [.int 0, .int 1]] = .ok X0) (l1 : fn__law_left [E, .int w, .tup [.int 1, .int 0]] = .ok X1) (l2 : fn__law_left [E, .int w, .tup [.int 1, .int 1]] = .ok X2)
    (c0 : fn__law_crosswise [X0] = .ok (.int 0)) (c1 : fn__law_crosswise [X1] = .ok (.int 0)) (c2 : fn__law_crosswise [X2] = .ok (.int 0)) :
    finK [6, 7, 8, 10] (lb2_law [s0, s1, s2, .va E, .va (.int 1), .va (.int n), .va (.int w), .no, .no, .no, .no]) = some [s0, s1, s2, .va E, .va (.int 1), .va (.int (n + 1)), .no, .no, .no, .no, .no] := by
  simp_arith [lb2_law, ce1_law, e, l0, l1, l2, c0, c1, c2, finK_nx]
theorem w_list (s0 s1 s2 : Sl) (E X0 X1 X2 : D) (k n w z0 z1 z2 : Int) (ps : List (Int × Int)) (e : fn_roots [E, .int w] = .ow (.lst (ps.map vp))) (hl : ps.length < 1000)
    (l0 : fn__law_left [E, .int w, .tup [.int 0, .int 1]] = .ok X0) (l1 : fn__law_left [E, .int w, .tup [.int 1, .int 0]] = .ok X1) (l2 : fn__law_left [E, .int w, .tup [.int 1, .int 1]] = .ok X2)
    (c0 : fn__law_crosswise [X0] = .ok (.int z0)) (c1 : fn__law_crosswise [X1] = .ok (.int z1)) (c2 : fn__law_crosswise [X2] = .ok (.int z2)) (nz : ¬(z0 = 0 ∧ z1 = 0 ∧ z2 = 0))
    (hll : fn__law_list [E, .int w, .lst (ps.map vp), .int k] = .ok (.bl true)) :
    finK [6, 7, 8, 10] (lb2_law [s0, s1, s2, .va E, .va (.int k), .va (.int n), .va (.int w), .no, .no, .no, .no]) = some [s0, s1, s2, .va E, .va (.int k), .va (.int n), .no, .no, .no, .no, .no] := by
  have cn := cop_ne_refl (d := .lst (ps.map vp)) (by rw [shp_l]; exact vps_shp ps)
  have fl := vps_flat ps
  have hl' : (ps.map vp).length < 1000000 := by rw [List.length_map]; omega
  generalize ps.map vp = L at *
  have ce : COp.fn .eq (.lst [.int z0, .int z1, .int z2]) (.lst [.int 0, .int 0, .int 0]) = some (.bl false) := by
    have h1 : shp 64 (.lst [.int z0, .int z1, .int z2]) = true := by simp only [shp_l, shps_c, shps_n, shp_i, Bool.and_self]
    have h2 : shp 64 (.lst [.int 0, .int 0, .int 0]) = true := by simp only [shp_l, shps_c, shps_n, shp_i, Bool.and_self]
    rw [cop_eq_ll h1 h2]
    simp only [eqs_cc, eqs_nn, eq1_ii]
    congr 2
    rw [← Bool.not_eq_true, Bool.and_eq_true, Bool.and_eq_true, Bool.and_eq_true]
    intro h
    exact nz ⟨of_decide_eq_true h.1, of_decide_eq_true h.2.1, of_decide_eq_true h.2.2.1⟩
  have hlt : L.length < 1000000 := hl'
  generalize hC : D.lst [.int z0, .int z1, .int z2] = C at *
  simp_arith [-cop_eq_ll, lb2_law, ce1_law, e, l0, l1, l2, c0, c1, c2, hC, ce, hll, cn, hlt, finK_nx]

/-! the three quadratics -/
theorem two_of (x0 x1 x2 x3 x4 x5 x6 x7 : Int) (h0 : x4 * x7 - x5 * x6 = 0) (h1 : x0 * x7 + x4 * x3 - x1 * x6 - x5 * x2 = 0) (h2 : x0 * x3 - x1 * x2 = 0) :
    (x2 * x7 - x3 * x6 = 0 ∧ x0 * x7 + x2 * x5 - x1 * x6 - x3 * x4 = 0 ∧ x0 * x5 - x1 * x4 = 0) ∨ (x1 * x7 - x3 * x5 = 0 ∧ x0 * x7 + x1 * x6 - x2 * x5 - x3 * x4 = 0 ∧ x0 * x6 - x2 * x4 = 0) := by
  have a1 : (x2 * x7 - x3 * x6) * (x1 * x7 - x3 * x5) = 0 := by grind
  have a2 : (x2 * x7 - x3 * x6) * (x0 * x7 + x1 * x6 - x2 * x5 - x3 * x4) = 0 := by grind
  have a3 : (x2 * x7 - x3 * x6) * (x0 * x6 - x2 * x4) = 0 := by grind
  have b1 : (x0 * x7 + x2 * x5 - x1 * x6 - x3 * x4) * (x1 * x7 - x3 * x5) = 0 := by grind
  have b2 : (x0 * x7 + x2 * x5 - x1 * x6 - x3 * x4) * (x0 * x7 + x1 * x6 - x2 * x5 - x3 * x4) = 0 := by grind
  have b3 : (x0 * x7 + x2 * x5 - x1 * x6 - x3 * x4) * (x0 * x6 - x2 * x4) = 0 := by grind
  have c1 : (x0 * x5 - x1 * x4) * (x1 * x7 - x3 * x5) = 0 := by grind
  have c2 : (x0 * x5 - x1 * x4) * (x0 * x7 + x1 * x6 - x2 * x5 - x3 * x4) = 0 := by grind
  have c3 : (x0 * x5 - x1 * x4) * (x0 * x6 - x2 * x4) = 0 := by grind
  rw [Int.mul_eq_zero] at *
  by_cases d : x2 * x7 - x3 * x6 = 0 ∧ x0 * x7 + x2 * x5 - x1 * x6 - x3 * x4 = 0 ∧ x0 * x5 - x1 * x4 = 0
  · exact .inl d
  · refine .inr ?_
    clear h0 h1 h2
    generalize x2 * x7 - x3 * x6 = A at *
    generalize x0 * x7 + x2 * x5 - x1 * x6 - x3 * x4 = B' at *
    generalize x0 * x5 - x1 * x4 = C at *
    generalize x1 * x7 - x3 * x5 = A' at *
    generalize x0 * x7 + x1 * x6 - x2 * x5 - x3 * x4 = B2 at *
    generalize x0 * x6 - x2 * x4 = C' at *
    omega
theorem forF_finK {ws : List Nat} {g : D → En → Option En} {b : SDen} {d : D} {ds : List D} {δ δ1 δ2 : En} (hg : g d δ = some δ1) (h : finK ws (b δ1) = some δ2) : forF ws g b (d :: ds) δ = forF ws g b ds δ2 := by
  show (match g d δ with
    | none => RS.bad
    | some δ1 => loopK ws (b δ1) (forF ws g b ds)) = _
  rw [hg]
  show loopK ws (b δ1) (forF ws g b ds) = _
  generalize b δ1 = r at *
  cases r <;> simp only [finK, loopK] at * <;> first | (cases h; rfl) | (cases h)
def Zr (s0 s1 s2 s3 t0 t1 t2 t3 : Int) : Prop := t0 * t3 - t1 * t2 = 0 ∧ s0 * t3 + t0 * s3 - s1 * t2 - t1 * s2 = 0 ∧ s0 * s3 - s1 * s2 = 0
theorem cr_id (p0 p1 p2 p3 q0 q1 q2 q3 u v : Int) : (v * p0 + u * q0) * (v * p3 + u * q3) - (v * p1 + u * q1) * (v * p2 + u * q2) = (q0 * q3 - q1 * q2) * u * u + (p0 * q3 + q0 * p3 - p1 * q2 - q1 * p2) * u * v + (p0 * p3 - p1 * p2) * v * v := by grind
theorem one_w (E : D) (w s0 s1 s2 s3 t0 t1 t2 t3 m k n : Int) (r0 r1 r2 : Sl) (i8 : fn_is_eight [E] = .ok (.bl true)) (es : fn_sides_of [E, .int w] = .ok (.tup [.lst [.int s0, .int s1, .int s2, .int s3], .lst [.int t0, .int t1, .int t2, .int t3]]))
    (el : ∀ u v : Int, B 400 u → B 400 v → fn__law_left [E, .int w, .tup [.int u, .int v]] = .ok (.lst [.int (v * s0 + u * t0), .int (v * s1 + u * t1), .int (v * s2 + u * t2), .int (v * s3 + u * t3)]))
    (em : (s0 * t3 + t0 * s3 - s1 * t2 - t1 * s2) * (s0 * t3 + t0 * s3 - s1 * t2 - t1 * s2) - 4 * (t0 * t3 - t1 * t2) * (s0 * s3 - s1 * s2) = m) (hb : ∀ x ∈ [s0, s1, s2, s3, t0, t1, t2, t3], B 70 x) (hk : Mn m k) (nB : B 10 n) :
    (Zr s0 s1 s2 s3 t0 t1 t2 t3 ∧ finK [6, 7, 8, 10] (lb2_law [r0, r1, r2, .va E, .va (.int k), .va (.int n), .va (.int w), .no, .no, .no, .no]) = some [r0, r1, r2, .va E, .va (.int k), .va (.int (n + 1)), .no, .no, .no, .no, .no]) ∨
    (¬ Zr s0 s1 s2 s3 t0 t1 t2 t3 ∧ finK [6, 7, 8, 10] (lb2_law [r0, r1, r2, .va E, .va (.int k), .va (.int n), .va (.int w), .no, .no, .no, .no]) = some [r0, r1, r2, .va E, .va (.int k), .va (.int n), .no, .no, .no, .no, .no]) := by
  have eq := quadof_eq E w s0 s1 s2 s3 t0 t1 t2 t3 es hb
  have bb0 := hb s0 (by simp); have bb1 := hb s1 (by simp); have bb2 := hb s2 (by simp); have bb3 := hb s3 (by simp)
  have cc0 := hb t0 (by simp); have cc1 := hb t1 (by simp); have cc2 := hb t2 (by simp); have cc3 := hb t3 (by simp)
  have z0 : B 400 0 := by unfold B; decide
  have z1 : B 400 1 := by unfold B; decide
  have crs : ∀ u v : Int, B 400 u → B 400 v → fn__law_crosswise [.lst [.int (v * s0 + u * t0), .int (v * s1 + u * t1), .int (v * s2 + u * t2), .int (v * s3 + u * t3)]] = .ok (.int ((t0 * t3 - t1 * t2) * u * u + (s0 * t3 + t0 * s3 - s1 * t2 - t1 * s2) * u * v + (s0 * s3 - s1 * s2) * v * v)) := fun u v bu bv => by
    have L : ∀ {x y : Int}, B 70 x → B 70 y → B 600 (v * x + u * y) := fun hx hy => (B.add (B.mul bv hx) (B.mul bu hy)).mono (by decide)
    rw [cross_eq _ _ _ _ (L bb0 cc0) (L bb1 cc1) (L bb2 cc2) (L bb3 cc3)]
    exact congrArg (fun x => RD.ok (D.int x)) (cr_id _ _ _ _ _ _ _ _ _ _)
  have l0 := el 0 1 z0 z1
  have l1 := el 1 0 z1 z0
  have l2 := el 1 1 z1 z1
  have c0 := crs 0 1 z0 z1
  have c1 := crs 1 0 z1 z0
  have c2 := crs 1 1 z1 z1
  have ba : B 200 (t0 * t3 - t1 * t2) := (B.sub (B.mul cc0 cc3) (B.mul cc1 cc2)).mono (by decide)
  have bm : B 200 (s0 * t3 + t0 * s3 - s1 * t2 - t1 * s2) := (B.sub (B.sub (B.add (B.mul bb0 cc3) (B.mul cc0 bb3)) (B.mul bb1 cc2)) (B.mul cc1 bb2)).mono (by decide)
  have bc : B 200 (s0 * s3 - s1 * s2) := (B.sub (B.mul bb0 bb3) (B.mul bb1 bb2)).mono (by decide)
  unfold Zr
  generalize t0 * t3 - t1 * t2 = a at *
  generalize s0 * t3 + t0 * s3 - s1 * t2 - t1 * s2 = b at *
  generalize s0 * s3 - s1 * s2 = c at *
  generalize (D.lst [.int (1 * s0 + 0 * t0), .int (1 * s1 + 0 * t1), .int (1 * s2 + 0 * t2), .int (1 * s3 + 0 * t3)]) = X0 at *
  generalize (D.lst [.int (0 * s0 + 1 * t0), .int (0 * s1 + 1 * t1), .int (0 * s2 + 1 * t2), .int (0 * s3 + 1 * t3)]) = X1 at *
  generalize (D.lst [.int (1 * s0 + 1 * t0), .int (1 * s1 + 1 * t1), .int (1 * s2 + 1 * t2), .int (1 * s3 + 1 * t3)]) = X2 at *
  by_cases hz : a = 0 ∧ b = 0 ∧ c = 0
  · refine .inl ⟨hz, ?_⟩
    obtain ⟨rfl, rfl, rfl⟩ := hz
    have k1 : k = 1 := by
      rcases hk with ⟨h, _⟩ | ⟨_, h⟩ | ⟨r, r0, e, _⟩ | ⟨r, r0, e, _⟩
      · omega
      · exact h
      · have := Int.mul_pos r0 r0; omega
      · have := Int.mul_pos r0 r0; omega
    subst k1
    exact w_none r0 r1 r2 E X0 X1 X2 n w nB (roots_n E w i8 (rof_n E w eq)) l0 l1 l2 (by rw [c0]; simp) (by rw [c1]; simp) (by rw [c2]; simp)
  · refine .inr ⟨hz, ?_⟩
    obtain ⟨ps, e, hkl, hps, h2⟩ := roots_ex E w a b c m k i8 eq hz em ba bm bc hk
    have hlen : ps.length < 1000 := by
      rcases h2 with h | ⟨p, q, rfl, _⟩
      · omega
      · simp
    refine w_list r0 r1 r2 E X0 X1 X2 k n w _ _ _ ps e hlen l0 l1 l2 c0 c1 c2 (fun z => hz (by omega)) (llist_ok E w k ps hkl (fun p hp => ?_) (fun p hp => ⟨(hps p hp).2.1, (hps p hp).2.2.1⟩) h2)
    obtain ⟨iv, b1, b2, q0⟩ := hps p hp
    refine ⟨lvalue_v iv, _, el p.1 p.2 b1 b2, ?_⟩
    rw [crs p.1 p.2 b1 b2, q0]
theorem turn_abs (L E : D) (k c v t3 far z m q n : Int) (h0 : 0 ≤ k) (h1 : k < 64) (nB : B 10 n) (n1 : n ≠ 1)
    (ec : fn__law_cell_at [L, .int k] = .ok (.int c)) (ed : fn__law_drawn [.int c, .int k] = .ow (.lst [.int v]))
    (hz : (if k < 12 then (1 : Int) else 0) = z) (ef : atI [D.int 999999999, .int 9999999999999999999] z = some (.int far))
    (ee : fn__law_eight [.lst [.int v], .int far] = .okp E (.lst [.int t3])) (e2 : fn_measure [E] = .ok (.int m)) (em : fn__law_many [.int m] = .ok (.int q))
    (lp : ∀ s0 s1 s2, forF [6, 7, 8, 10] (Tg.var 6).st lb2_law (rngD 0 3) [s0, s1, s2, .va E, .va (.int q), .va (.int 0), .no, .no, .no, .no, .no] = .nx [s0, s1, s2, .va E, .va (.int q), .va (.int n), .no, .no, .no, .no, .no]) :
    finK [1, 2, 3, 4, 5, 6, 7, 8, 10] (lb1_law [.va L, .va (.int k), .no, .no, .no, .no, .no, .no, .no, .no, .no]) = some [.va L, .no, .no, .no, .no, .no, .no, .no, .no, .no, .no] := by
  have il : intL [.bl (decide (k < 12))] = some (.int z) := by
    rw [← hz]
    show some (D.int (if decide (k < 12) = true then 1 else 0)) = _
    simp
  have r3 : rngD 0 3 = [.int 0, .int 1, .int 2] := rfl
  have lp' := lp
  rw [r3] at lp'
  clear lp
  simp_arith [lb1_law, sFor_, kFor_ok, ec, ed, rngK_1, r3, il, ef, ee, e2, em, lp', finK_nx, n1]
theorem zr_sw (s0 s1 s2 s3 t0 t1 t2 t3 : Int) : Zr s0 s1 s2 s3 t0 t1 t2 t3 ↔ (t0 * t3 - t1 * t2 = 0 ∧ s0 * t3 + t0 * s3 - s1 * t2 - t1 * s2 = 0 ∧ s0 * s3 - s1 * s2 = 0) := Iff.rfl
theorem z_0 {x0 x1 x2 x3 x4 x5 x6 x7 : Int} (h : Zr x0 x1 x2 x3 x4 x5 x6 x7) : Zr x0 x1 x4 x5 x2 x3 x6 x7 ∨ Zr x0 x2 x4 x6 x1 x3 x5 x7 := by
  obtain ⟨h0, h1, h2⟩ := h
  rcases two_of x0 x1 x2 x3 x4 x5 x6 x7 h0 h1 h2 with ⟨a, b, c⟩ | ⟨a, b, c⟩
  · exact .inl ⟨by grind, by grind, by grind⟩
  · exact .inr ⟨by grind, by grind, by grind⟩
theorem z_1 {x0 x1 x2 x3 x4 x5 x6 x7 : Int} (h : Zr x0 x1 x4 x5 x2 x3 x6 x7) : Zr x0 x1 x2 x3 x4 x5 x6 x7 ∨ Zr x0 x2 x4 x6 x1 x3 x5 x7 := by
  obtain ⟨h0, h1, h2⟩ := h
  rcases two_of x0 x1 x4 x5 x2 x3 x6 x7 h0 h1 h2 with ⟨a, b, c⟩ | ⟨a, b, c⟩
  · exact .inl ⟨by grind, by grind, by grind⟩
  · exact .inr ⟨by grind, by grind, by grind⟩
theorem z_2 {x0 x1 x2 x3 x4 x5 x6 x7 : Int} (h : Zr x0 x2 x4 x6 x1 x3 x5 x7) : Zr x0 x1 x2 x3 x4 x5 x6 x7 ∨ Zr x0 x1 x4 x5 x2 x3 x6 x7 := by
  obtain ⟨h0, h1, h2⟩ := h
  rcases two_of x0 x2 x4 x6 x1 x3 x5 x7 h0 h1 h2 with ⟨a, b, c⟩ | ⟨a, b, c⟩
  · exact .inl ⟨by grind, by grind, by grind⟩
  · exact .inr ⟨by grind, by grind, by grind⟩
theorem turn_ok (ns : List Int) (k : Int) (h0 : 0 ≤ k) (h1 : k < 64) : finK [1, 2, 3, 4, 5, 6, 7, 8, 10] (lb1_law [.va (.lst (ns.map D.int)), .va (.int k), .no, .no, .no, .no, .no, .no, .no, .no, .no]) = some [.va (.lst (ns.map D.int)), .no, .no, .no, .no, .no, .no, .no, .no, .no, .no] := by
  obtain ⟨c, ec⟩ := cell_ex ns k h0
  obtain ⟨v, ed⟩ := drawn_ex c k h0 (by omega)
  obtain ⟨far, ef, f0, f1⟩ : ∃ far : Int, atI [D.int 999999999, .int 9999999999999999999] (if k < 12 then 1 else 0) = some (.int far) ∧ 0 < far ∧ far ≤ 9999999999999999999 := by
    split
    · exact ⟨9999999999999999999, rfl, by decide, by decide⟩
    · exact ⟨999999999, rfl, by decide, by decide⟩
  obtain ⟨ys, t3, ee, l8, by8, ny⟩ := eight_ex v far f0 f1
  obtain ⟨x0, x1, x2, x3, x4, x5, x6, x7, rfl⟩ := len8 l8
  have up : ∀ {x : Int}, R 10000000000000000000 x → R 99999999999999999999 x := fun h => h.mono (by decide)
  have bb : ∀ x ∈ [x0, x1, x2, x3, x4, x5, x6, x7], B 70 x := fun x h => (by8 x h).b (by decide)
  have e2 := measure_eq x0 x1 x2 x3 x4 x5 x6 x7 (fun x hx => up (by8 x hx)) ny
  have i8 : fn_is_eight [.tup [.int x0, .int x1, .int x2, .int x3, .int x4, .int x5, .int x6, .int x7]] = _ := is8 [x0, x1, x2, x3, x4, x5, x6, x7] rfl (fun x hx => up (by8 x hx)) ny
  obtain ⟨a1, a2, a3⟩ := side_0 x0 x1 x2 x3 x4 x5 x6 x7 bb
  obtain ⟨b1, b2, b3⟩ := side_1 x0 x1 x2 x3 x4 x5 x6 x7 bb
  obtain ⟨c1, c2, c3⟩ := side_2 x0 x1 x2 x3 x4 x5 x6 x7 bb
  have mB : B 300 (ms x0 x1 x2 x3 x4 x5 x6 x7) := by
    rw [← a3]
    have q0 := bb x0 (by simp); have q1 := bb x1 (by simp); have q2 := bb x2 (by simp); have q3 := bb x3 (by simp)
    have q4 := bb x4 (by simp); have q5 := bb x5 (by simp); have q6 := bb x6 (by simp); have q7 := bb x7 (by simp)
    have d1 : B 143 (x0 * x7 + x4 * x3 - x1 * x6 - x5 * x2) := (B.sub (B.sub (B.add (B.mul q0 q7) (B.mul q4 q3)) (B.mul q1 q6)) (B.mul q5 q2)).mono (by decide)
    have d2 : B 143 (x4 * x7 - x5 * x6) := (B.sub (B.mul q4 q7) (B.mul q5 q6)).mono (by decide)
    have d3 : B 143 (x0 * x3 - x1 * x2) := (B.sub (B.mul q0 q3) (B.mul q1 q2)).mono (by decide)
    exact (B.sub (B.mul d1 d1) (B.mul (B.mul (B.lit 4) d2) d3)).mono (by decide)
  obtain ⟨q, em, hq⟩ := many_ex _ mB
  have hb1 : ∀ x ∈ [x0, x1, x4, x5, x2, x3, x6, x7], B 70 x := fun x hx => bb x (by simp only [List.mem_cons, List.not_mem_nil, or_false] at *; grind)
  have hb2 : ∀ x ∈ [x0, x2, x4, x6, x1, x3, x5, x7], B 70 x := fun x hx => bb x (by simp only [List.mem_cons, List.not_mem_nil, or_false] at *; grind)
  have A := fun (r0 r1 r2 : Sl) (n : Int) (nB : B 10 n) => one_w _ 0 x0 x1 x2 x3 x4 x5 x6 x7 _ q n r0 r1 r2 i8 a1 a2 a3 bb hq nB
  have B' := fun (r0 r1 r2 : Sl) (n : Int) (nB : B 10 n) => one_w _ 1 x0 x1 x4 x5 x2 x3 x6 x7 _ q n r0 r1 r2 i8 b1 b2 b3 hb1 hq nB
  have C := fun (r0 r1 r2 : Sl) (n : Int) (nB : B 10 n) => one_w _ 2 x0 x2 x4 x6 x1 x3 x5 x7 _ q n r0 r1 r2 i8 c1 c2 c3 hb2 hq nB
  have lit : ∀ n : Int, 0 ≤ n → n < 8 → B 10 n := fun n _ _ => by unfold B; omega
  have key : ∃ n : Int, 0 ≤ n ∧ n < 8 ∧ n ≠ 1 ∧ ∀ s0 s1 s2, forF [6, 7, 8, 10] (Tg.var 6).st lb2_law (rngD 0 3) [s0, s1, s2, .va (.tup [.int x0, .int x1, .int x2, .int x3, .int x4, .int x5, .int x6, .int x7]), .va (.int q), .va (.int 0), .no, .no, .no, .no, .no] = .nx [s0, s1, s2, .va (.tup [.int x0, .int x1, .int x2, .int x3, .int x4, .int x5, .int x6, .int x7]), .va (.int q), .va (.int n), .no, .no, .no, .no, .no] := by
    clear e2 i8 a1 a2 a3 b1 b2 b3 c1 c2 c3 em
    generalize D.tup [.int x0, .int x1, .int x2, .int x3, .int x4, .int x5, .int x6, .int x7] = E at *
    have st : ∀ (w n n' : Int) (l : List D), (∀ s0 s1 s2 : Sl, finK [6, 7, 8, 10] (lb2_law [s0, s1, s2, .va E, .va (.int q), .va (.int n), .va (.int w), .no, .no, .no, .no]) = some [s0, s1, s2, .va E, .va (.int q), .va (.int n'), .no, .no, .no, .no, .no]) →
        ∀ s0 s1 s2 : Sl, forF [6, 7, 8, 10] (Tg.var 6).st lb2_law (.int w :: l) [s0, s1, s2, .va E, .va (.int q), .va (.int n), .no, .no, .no, .no, .no] = forF [6, 7, 8, 10] (Tg.var 6).st lb2_law l [s0, s1, s2, .va E, .va (.int q), .va (.int n'), .no, .no, .no, .no, .no] := fun w n n' l e s0 s1 s2 => forF_finK rfl (e s0 s1 s2)
    have fin : ∀ (n0 n1 n2 : Int), (∀ s0 s1 s2 : Sl, finK [6, 7, 8, 10] (lb2_law [s0, s1, s2, .va E, .va (.int q), .va (.int 0), .va (.int 0), .no, .no, .no, .no]) = some [s0, s1, s2, .va E, .va (.int q), .va (.int n0), .no, .no, .no, .no, .no]) →
        (∀ s0 s1 s2 : Sl, finK [6, 7, 8, 10] (lb2_law [s0, s1, s2, .va E, .va (.int q), .va (.int n0), .va (.int 1), .no, .no, .no, .no]) = some [s0, s1, s2, .va E, .va (.int q), .va (.int n1), .no, .no, .no, .no, .no]) →
        (∀ s0 s1 s2 : Sl, finK [6, 7, 8, 10] (lb2_law [s0, s1, s2, .va E, .va (.int q), .va (.int n1), .va (.int 2), .no, .no, .no, .no]) = some [s0, s1, s2, .va E, .va (.int q), .va (.int n2), .no, .no, .no, .no, .no]) →
        ∀ s0 s1 s2, forF [6, 7, 8, 10] (Tg.var 6).st lb2_law (rngD 0 3) [s0, s1, s2, .va E, .va (.int q), .va (.int 0), .no, .no, .no, .no, .no] = .nx [s0, s1, s2, .va E, .va (.int q), .va (.int n2), .no, .no, .no, .no, .no] := fun n0 n1 n2 e0 e1 e2 s0 s1 s2 => by
      show forF [6, 7, 8, 10] (Tg.var 6).st lb2_law [.int 0, .int 1, .int 2] _ = _
      rw [st 0 0 n0 _ e0, st 1 n0 n1 _ e1, st 2 n1 n2 _ e2]
      rfl
    by_cases za : Zr x0 x1 x2 x3 x4 x5 x6 x7
    · have A1 := fun r0 r1 r2 n nB => (A r0 r1 r2 n nB).resolve_right (fun z => z.1 za)
      by_cases zb : Zr x0 x1 x4 x5 x2 x3 x6 x7
      · have B1 := fun r0 r1 r2 n nB => (B' r0 r1 r2 n nB).resolve_right (fun z => z.1 zb)
        by_cases zc : Zr x0 x2 x4 x6 x1 x3 x5 x7
        · have C1 := fun r0 r1 r2 n nB => (C r0 r1 r2 n nB).resolve_right (fun z => z.1 zc)
          exact ⟨3, by decide, by decide, by decide, fin 1 2 3 (fun s0 s1 s2 => (A1 s0 s1 s2 0 (lit 0 (by decide) (by decide))).2) (fun s0 s1 s2 => (B1 s0 s1 s2 1 (lit 1 (by decide) (by decide))).2) (fun s0 s1 s2 => (C1 s0 s1 s2 2 (lit 2 (by decide) (by decide))).2)⟩
        · have C1 := fun r0 r1 r2 n nB => (C r0 r1 r2 n nB).resolve_left (fun z => zc z.1)
          exact ⟨2, by decide, by decide, by decide, fin 1 2 2 (fun s0 s1 s2 => (A1 s0 s1 s2 0 (lit 0 (by decide) (by decide))).2) (fun s0 s1 s2 => (B1 s0 s1 s2 1 (lit 1 (by decide) (by decide))).2) (fun s0 s1 s2 => (C1 s0 s1 s2 2 (lit 2 (by decide) (by decide))).2)⟩
      · have B1 := fun r0 r1 r2 n nB => (B' r0 r1 r2 n nB).resolve_left (fun z => zb z.1)
        have zc : Zr x0 x2 x4 x6 x1 x3 x5 x7 := (z_0 za).resolve_left zb
        have C1 := fun r0 r1 r2 n nB => (C r0 r1 r2 n nB).resolve_right (fun z => z.1 zc)
        exact ⟨2, by decide, by decide, by decide, fin 1 1 2 (fun s0 s1 s2 => (A1 s0 s1 s2 0 (lit 0 (by decide) (by decide))).2) (fun s0 s1 s2 => (B1 s0 s1 s2 1 (lit 1 (by decide) (by decide))).2) (fun s0 s1 s2 => (C1 s0 s1 s2 1 (lit 1 (by decide) (by decide))).2)⟩
    · have A1 := fun r0 r1 r2 n nB => (A r0 r1 r2 n nB).resolve_left (fun z => za z.1)
      by_cases zb : Zr x0 x1 x4 x5 x2 x3 x6 x7
      · have B1 := fun r0 r1 r2 n nB => (B' r0 r1 r2 n nB).resolve_right (fun z => z.1 zb)
        have zc : Zr x0 x2 x4 x6 x1 x3 x5 x7 := (z_1 zb).resolve_left za
        have C1 := fun r0 r1 r2 n nB => (C r0 r1 r2 n nB).resolve_right (fun z => z.1 zc)
        exact ⟨2, by decide, by decide, by decide, fin 0 1 2 (fun s0 s1 s2 => (A1 s0 s1 s2 0 (lit 0 (by decide) (by decide))).2) (fun s0 s1 s2 => (B1 s0 s1 s2 0 (lit 0 (by decide) (by decide))).2) (fun s0 s1 s2 => (C1 s0 s1 s2 1 (lit 1 (by decide) (by decide))).2)⟩
      · have B1 := fun r0 r1 r2 n nB => (B' r0 r1 r2 n nB).resolve_left (fun z => zb z.1)
        have zc : ¬ Zr x0 x2 x4 x6 x1 x3 x5 x7 := fun z => (z_2 z).elim za zb
        have C1 := fun r0 r1 r2 n nB => (C r0 r1 r2 n nB).resolve_left (fun z => zc z.1)
        exact ⟨0, by decide, by decide, by decide, fin 0 0 0 (fun s0 s1 s2 => (A1 s0 s1 s2 0 (lit 0 (by decide) (by decide))).2) (fun s0 s1 s2 => (B1 s0 s1 s2 0 (lit 0 (by decide) (by decide))).2) (fun s0 s1 s2 => (C1 s0 s1 s2 0 (lit 0 (by decide) (by decide))).2)⟩
  obtain ⟨n, n0, n8, n1, lp⟩ := key
  exact turn_abs (.lst (ns.map D.int)) _ k c v t3 far _ _ q n h0 h1 (lit n n0 n8) n1 ec ed rfl ef ee e2 em lp
theorem law_pure (ns : List Int) (hl : ns.length ≤ 63) : fn_law [.lst (ns.map D.int)] = .ok (.bl true) := by
  rw [fn_law_eq]
  simp_arith [sh_law, sFor_, kFor_ok]
  rw [rngK_1 (rngOk_of (by split <;> omega) (by split <;> omega)), kFor_ok]
  simp_arith []
  rw [forF_fin]
  · simp_arith []
  · intro d hd
    obtain ⟨k, rfl, h0, h1⟩ := mem_rngD hd
    exact ⟨_, rfl, turn_ok ns k h0 (by split at h1 <;> omega)⟩

end My
open PySem PySem.W PyProof.Rows in
set_option maxRecDepth 100000 in
set_option maxHeartbeats 0 in
theorem PySem.Challenge.cw_threadchart_k68_roots_of_eights_holds : PySem.Challenge.rw_threadchart_k68_roots_of_eights.Holds := by
  w_on; o_law; k_head; (case hw => w_witness2)
  k_fill
  refine L2.walk_of (l := PySem.Challenge.rw_threadchart_k68_roots_of_eights) (n := 63) (k := 33) (x := "_law_script") (CX := fun w => L2N.CX PySem.Challenge.rw_threadchart_k68_roots_of_eights.prog w) (sp := fun w => Z.spD _ (Z.ctOf _) 1 My.fn_law) rfl (by decide) rfl ⟨rfl, by decide, by decide⟩ (fun w h Y => by first | exact PySem.W.kIn_of Y | exact PySem.W.km_in_of Y) ?F (fun _ _ a ns hl _ hS => Z.law_sp hS (My.law_pure ns hl)) (fun w H s e s' h => Z.cx_false h)
  case F =>
    intro w mg fa h KX G hmg
    obtain ⟨fd, hb, hF⟩ := My.all_mk (P := PySem.Challenge.rw_threadchart_k68_roots_of_eights.prog) (w := w) KX G hmg (by k_is) (by k_is) (by k_is) (by k_is) (by k_is) (by k_is) (by k_is) (by k_is) (by k_is) (by k_is) (by k_is) (by k_is) (by k_is) (by k_is) (by k_is) (by k_is) (by k_is) (by k_is) (by k_is) (by k_is) (by k_is) (by k_is) (by k_is) (by k_is) (by k_is) (by k_is) (by k_is) (by k_is) (by k_is) (by k_is) (by k_is) (by k_is) (by k_is) (by k_is) (by k_is) (by k_is) (by k_is) (by k_is) (by k_is) (by k_is) (by k_is) (by k_is) (by k_is) (by k_is) (by k_is) (by k_is) (by k_is) (by k_is) (by k_is) (by k_is) (by k_is) (by k_is) (by k_is) (by k_is) (by k_is) (by k_is) (by k_is) (by k_is) (by k_is) (by k_is) (by k_is) (by k_is) (by k_is) (by k_is) (by k_is) (by k_is) (by k_is) (by k_is) (by k_is) (by k_is) (by k_is) (by k_is) (by k_is) (by k_is) (by k_is) (by k_is) (by k_is) (by k_is) (by k_is) (by k_is) (by k_is) (by k_is) (by k_is) (by k_is) (by k_is) (by k_is) (by k_is) (by k_is) (by k_is) (by k_is) (by k_is) (by k_is) (by k_is) (by k_is) (by k_is) (by k_is) (by k_is) (by k_is) (by k_is) (by k_is) (by k_is) (by k_is) (by k_is) (by k_is) (by k_is) (by k_is) (by k_is) (by k_is) (by k_is) (by k_is) (by k_is) (by k_is) (by k_is) (by k_is) (by k_is) (by k_is) (by k_is) (by k_is) (by k_is) (by k_is) (by k_is) (by k_is) (by k_is) (by k_is) (by k_is) (by k_is) (by k_is) (by k_is) (by k_is) (by k_is) (by k_is) (by k_is) (by k_is) (by k_is) (by k_is) (by k_is) (by k_is) (by k_is) (by k_is) (by k_is) (by k_is) (by k_is) (by k_is) (by k_is) (by kernel_rfl)
    exact ⟨fd, hb, hF⟩
